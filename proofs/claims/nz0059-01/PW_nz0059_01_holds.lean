import PyProof.Rows.All
import Wide.All
import OpenK.AllK
import Wide.FinOn
import KE.LcTurns
import KE.KItemsList
import KE.KDictList
import KE.KIsAll
import KE.KItem
import KE.KRevSl
import KE.KListMore
import KE.KDictOf
import Lean
import PySem.Challenge.RW_nz0059_01
open PySem PySem.W PyProof.Rows PySem.Calls
set_option maxRecDepth 100000
set_option Elab.async false
set_option genSizeOf false
set_option bootstrap.genMatcherCode false
set_option compiler.extract_closed false
set_option tactic.hygienic false
set_option linter.all false
set_option maxHeartbeats 2000000
namespace Mine
local macro_rules |`(())=>`(by decide)
local macro_rules |`(⋯)=>`(by decide +kernel)
set_option genInjectivity false
abbrev Va:=Value
abbrev Ad:=Addr
abbrev Sh:=Shared
abbrev Op:=Option
abbrev Lv:=List (Option Value)
abbrev VS:=Value→Shared→Prop
theorem bl{a b:Nat}(h:Nat.ble a b=true:=by rfl):a≤b:=Nat.le_of_ble_eq_true h
def aa:=@if_neg
def af:=@wpAny_bind
def ai:=@if_pos
def aj:=@congrArg
def ak:=@wpAny_mono
def aq:=@wpAny_pure
def au:=@decide_eq_true
def av:=@decide_eq_false
def ay:=@wpAny_holding
def az:=@beq_iff_eq
def bg:=@beq_self_eq_true
def bh:=@wpAny_loadPart_at
def bk:=@kia_one
def bq:=@wpAny_execs_nil
def br:=@hideAll_get
def bu:=@beq_false_of_ne
def bw:=@wpAny_truthy_bool
def bz:=@strKind_is
def b8:=@wpAny_isSubtype_exc
def b9:=@wpAny_standAt
def cg:=@wpAny_field
noncomputable def ck.{u}{p:Sort u}(h:False):p:=h.elim
theorem cu{α:Type}{a b:α}(h:a∈[b]):a=b:=List.mem_singleton.mp h
theorem cy{α:Type}{a:α}{l m:List α}(h:a∈l++m):a∈l\/a∈m:=List.mem_append.mp h
theorem cz{α:Type}{x:Op α}(h:x.isSome):∃a,x=some a:=Option.isSome_iff_exists.mp h
theorem dg{α β:Type}{x:Op α}{f:α->Op β}{b:β}(h:x.bind f=some b):∃a,x=some a/\f a=some b:=Option.bind_eq_some_iff.mp h
theorem dh{α:Type}{a:α}{l:List α}(h:a∉l/\l.Nodup):(a::l).Nodup:=List.nodup_cons.mpr h
theorem dj{α:Type}{a:α}{l:List α}(h:(a::l).Nodup):a∉l/\l.Nodup:=List.nodup_cons.mp h
theorem dm{a b:Bool}(h:(a&&b)=true):a=true/\b=true:=Bool.and_eq_true_iff.mp h
theorem dw{α β:Type}{x:Op α}{f:α->β}{b:β}(h:x.map f=some b):∃a,x=some a/\f a=b:=Option.map_eq_some_iff.mp h
theorem dz{α:Type}{l:List α}{p:α->Bool}(h:l.all p=true):∀x∈l,p x=true:=List.all_eq_true.mp h
theorem d8{α:Type}{a:α}{l:List α}(h:a∈l.reverse):a∈l:=List.mem_reverse.mp h
theorem d9{α:Type}{a:α}{l:List α}{p:α->Bool}(h:a∈l.filter p):a∈l/\p a=true:=List.mem_filter.mp h
def ef:=@List.length_map
def ek:=@Heap.get?_push_of_some
def eu:=@Int.le_refl
def e9:=@Bool.and_eq_true
def fh:=@List.mem_append_left
def fj:=@Heap.get?_push_size
def fq:=@List.mem_append_right
def fu:=@Nat.le_trans
def fy:=@Heap.lt_size
def f6:=@List.lookup_cons
def f7:=@Nat.le_refl
def f9:=@List.getElem?_eq_getElem
def gh:=@List.length_reverse
def gi:=@Nat.le_of_eq
def gj:=@List.getElem?_map
def gk:=@List.not_mem_nil
def gn:=@List.map_cons
def gq:=@Nat.ne_of_lt
def gr:=@Nat.lt_of_lt_of_le
def gu:=@List.length_append
def gw:=@List.getD_eq_getElem?_getD
def gy:=@Nat.lt_trans
def gz:=@Ne.symm
def g4:=@List.mem_of_getElem?
def g5:=@Int.le_add_one
def g7:=@PySem.Calls.spliced_nil
def g8:=@PySem.Calls.spliced_cons
def g9:=@Heap.get?_update_self
def ia:=@Heap.get?_update_other
def ie:=@List.size_toArray
def ig:=@Nat.lt_irrefl
def ir:=@List.map_map
def iw:=@Fast.te14364793385576792824
def iy:=@Fast.te10110043849684766642
def iz:=@Int.lt_trans
def i0:=@List.append_assoc
def i6:=@Bool.not_eq_true'
def i7:=@Option.map_some
def i8:=@List.map_append
def i9:=@List.length_cons
def ja:=@Nat.le_of_lt
def jb:=@Prod.mk.inj
def jc:=@Heap.size_push
def jd:=@List.mem_cons_of_mem
def je:=@Option.some.injEq
def jf:=@PySem.F.excBase_ValueError
def jg:=@List.length_singleton
def jh:=@List.length_filter_le
def ji:=@List.getElem?_eq_none
def jj:=@List.nodup_cons
def jk:=@List.append_nil
def jl:=@List.map_reverse
def jm:=@PySem.wpAny_assign_Name
def jo:=@List.any_cons
def jq:=@Nat.le_of_lt_succ
def jr:=@Nat.ne_of_gt
def jt:=@Int.le_trans
def jv:=@Option.bind_some
def jw:=@List.exists_cons_of_length_eq_add_one
def jx:=@List.mem_map_of_mem
def jy:=@List.map_congr_left
def jz:=@PySem.wpAny_assign_Tuple
def j0:=@Nat.not_lt_zero
def j3:=@List.length_nil
def j4:=@Bool.or_eq_true
def j5:=@Nat.zero_le
def j6:=@Nat.lt_succ_of_le
def j7:=@PySem.F.slot_dict_get
def j8:=@Nat.succ_le_succ
def j9:=@List.getElem_mem
def kh:=@List.mem_cons
def ki:=@Nat.le_succ
def kj:=@List.eq_nil_of_length_eq_zero
def kq:=@List.nil_append
theorem kr{α:Type}{a b:α}(h:some a=some b):a=b:=Option.some.inj h
theorem ku{α:Type}{a b:α}{l:List α}(h:a∈b::l):a=b\/a∈l:=List.mem_cons.mp h
theorem k6{a b c:Nat}(h:a<=b)(k:b<c):a<c:=Nat.lt_of_le_of_lt h k
noncomputable abbrev pw:Program:=PySem.Challenge.pw_nz0059_01
noncomputable def jY:List Str:=(["_wall","SIMPLE_ESCAPES","OPERATORS","DEEPEST_KEY","Thing","Text","ListThing","TableThing","RangeThing","ProcThing","ErrorThing","FiberThing","ModuleThing","Entry","truth","sort_of"]:List Str)++(["same","code_of","is_word","is_word_things","is_label","is_plain_symbol","full_name","show_letter","show_text","show_symbol","show_pair","show_range","show_thing","show_error","show","LETTERS"]:List Str)++(["DIGITS","name_in","is_word_coretools","constant_name","need_module","need_mixed","copy_into","copy_proc","copy_module","copy_of","make_class","make_module","has_thing","own_line","ahead_count","made_line"]:List Str)++(["line_of","PRIVATE_NAMES","PRIVATE_KERNEL","GivenEntry","sight_of","given_entry","entry_at","first_entry","find","raise_version","need_unfrozen","own_module","define","place_entry","kind_word","need_entry"]:List Str)++(["undefine","remove","copied","alias","set_sight","need_mixin","include","prepend","respond","object_respond","copy_own","object_dup","object_clone","module_name","module_line","module_include"]:List Str)++(["module_prepend","module_remove","module_undef","module_alias","constant_from","constant_path","module_constant","module_set_constant","class_parent","GemError","Raised","MODULES","BUILTINS","MIXED","UNMADE","World"]:List Str)++(["is_around","_law_box","_law_take","_law_error","_law_row","_law_line","_law_found","_law_marked","_law_defined","_law_named","_law_mixed","_law_kept","_law_copied","_law_const","_law_alone","_law_both_right"]:List Str)
noncomputable def Uj:List Stmt:=pw.main.body.drop 121
noncomputable def qv:Program:={ pw with main:={ pw.main with body:=Uj } }
section
namespace HA
noncomputable def s(x:String)(t:Nat):Va:=.str (Str.ofString x) t
noncomputable def i(x t:Nat):Va:=.int (Int.ofNat x) t
noncomputable def r(a:Nat):Va:=.ref a
noncomputable def d(P:Params)(x:String)(t:Nat)(v:Va):DictEntry:=⟨PyData.keyHash P (Str.ofString x),.str (Str.ofString x) t,v⟩
noncomputable def t(l:List Va):Obj:={ cls:=.type "tuple",data:=.seq l.toArray }
noncomputable def fl(l:List Va):Obj:={ cls:=.none,data:=.fields l.toArray }
noncomputable def fd(c:Va)(l:List Va):Obj:={ cls:=c,data:=.fields l.toArray }
noncomputable def co(l:List Va):Obj:={ cls:=.type "code",data:=.fields l.toArray }
noncomputable def fr(l:Lv):Obj:={ cls:=.type "frame",slots:=l.toArray }
noncomputable def dc(l:List DictEntry)(k:Nat):Obj:={ cls:=.type "dict",data:=.dict l.toArray k }
noncomputable def cl(n:String)(b m:List Va)(ns:Nat)(su:List Va)(sl:Lv):Obj:={ cls:=.type "type",data:=.cls { name:=Str.ofString n,bases:=b,mro:=m,ns:=ns,qualname:=Str.ofString n,subclasses:=su },slots:=sl.toArray }
noncomputable def parts(x:Stmt):Arguments × List Stmt × Scope × Str × Nat:=match x with
 | .FunctionDef n a b _ _ _ s _ _ p=>(a,b,s,n,p.line)
 | .ClassDef n _ _ b _ _ _ _ _ _ _=>(⟨[],[],none,[],[],none,[]⟩,b,default,n,0)
 | _=>(⟨[],[],none,[],[],none,[]⟩,[],default,"",0)
noncomputable def Lb(x:Stmt):List Stmt:=(parts x).2.1
noncomputable def vF(x:Stmt):Str:=(parts x).2.2.2.1
noncomputable def NK(x:Stmt):List Str:=((parts x).2.2.1.names.filter λq=>q.2==.local).map (·.1)
noncomputable def Vf(l:List Stmt)(k:Nat):Stmt:=(l.drop k).headD (.Pass ⟨0,0,0,0⟩)
noncomputable def f1(k:Nat):Stmt:=Vf pw.main.body k
noncomputable def f2(k j:Nat):Stmt:=Vf (Lb (f1 k)) j
noncomputable def ft(x:Stmt)(q:Str):Obj:={ cls:=.none,data:=.func { name:=vF x,qualname:=q,params:=(parts x).1,body:=.stmts (parts x).2.1,scope:=(parts x).2.2.1,globals:=0,closure:=[],defaults:=.none,kwdefaults:=.none } }
noncomputable def fn(x:Stmt)(q:Str)(df:Va)(m:String)(mt:Nat)(c:Nat):Obj:={ cls:=.type "function",data:=.func { name:=vF x,qualname:=q,params:=(parts x).1,body:=.stmts (parts x).2.1,scope:=(parts x).2.2.1,globals:=3,closure:=[],defaults:=df,kwdefaults:=.none,pyModule:=.str (Str.ofString m) mt,code:=.ref c } }
noncomputable def g(L c:Nat)(z:List Va):List Va:=i L 0::i 4 0::r c::z
noncomputable def h(L c:Nat)(z:List Va):List Va:=i L 0::i 0 0::r c::z
noncomputable def dr(P:Params)(x:String)(k a:Nat)(z:List DictEntry):List DictEntry:=d P x k (r a)::z
noncomputable def sv(x:Str)(k:Nat):Va:=.str x k
noncomputable def nl:Nat->List Str->List Va
 | _,[]=>[]
 | k,x::z=>sv x k::nl (k+1) z
noncomputable def tn(k:Nat)(l:List String):Obj:=t (nl k (l.map Str.ofString))
noncomputable def t0:Obj:=t []
noncomputable def U3:Obj:=fl []
noncomputable def fp:Obj:=fd (.type "builtin_function_or_method") [.builtin "type.__prepare__",.type "type"]
noncomputable def fa(a:Nat):Obj:=fd (.type "builtin_function_or_method") [.builtin "object.__init_subclass__",r a]
noncomputable def fs(a:Nat):Obj:=fd (.type "super") [r a,r a,r a]
noncomputable def cb(n:String)(k L a:Nat):Obj:=co [s n k,s n (k+1),s "/claim/cut.py" (k+2),i L 0,i 0 0,i 0 0,i 0 0,i 0 0,r a,.bool false,i 181 0,r (a+1),.none,.none,.none,.none,i (k+3) 0,i L 0,s "/claim/cut.py" (k+4)]
noncomputable def fz(a b:Nat)(m:String)(mt:Nat):Obj:=fr [some (r a),some (r 3),some (r b),none,some (s m mt),none,some (r 0)]
noncomputable def D(m:String)(mt:Nat)(x:Stmt)(q:Str)(df:Va)(cs ps:List Va)(k c:Nat)(z:List Obj):List Obj:=t cs::fl ps::t (nl (k+3) (NK x))::t []::ft x q::co [sv (vF x) k,sv q (k+1),s "/claim/cut.py" (k+2),i (parts x).2.2.2.2 0,i (parts x).1.args.length 0,i 0 0,i 0 0,i 3 0,r (c-5),.bool true,i 181 0,r (c-4),.none,r (c-3),r (c-2),r (c-1),i (k+3+(NK x).length) 0,i (parts x).2.2.2.2 0,s "/claim/cut.py" (k+4+(NK x).length)]::fn x q df m mt c::z
noncomputable def E(m:String)(mt:Nat)(x:Stmt)(q:Str)(df:Va)(k c:Nat)(z:List Obj):List Obj:=t []::fl []::ft x q::co [sv (vF x) k,sv q (k+1),s "/claim/cut.py" (k+2),i (parts x).2.2.2.2 0,i (parts x).1.args.length 0,i 0 0,i 0 0,i 3 0,r (c-3),.bool true,i 181 0,r (c-2),.none,.none,.none,r (c-1),i (k+3) 0,i (parts x).2.2.2.2 0,s "/claim/cut.py" (k+4)]::fn x q df m mt c::z
noncomputable def qn(a b:Nat):Str:=vF (f1 a)++(".":Str)++vF (f2 a b)
noncomputable def F(m:String)(mt:Nat):Nat->Nat->Nat->Nat->List Obj->List Obj
 | 0,_,_,_,z=>z
 | n+1,a,k,c,z=>D m mt (f1 a) (vF (f1 a)) .none [] [] k c (F m mt n (a+1) (k+(NK (f1 a)).length+6) (c+7) z)
noncomputable def G(m:String)(mt a:Nat):Nat->Nat->Nat->Nat->List Obj->List Obj
 | 0,_,_,_,z=>z
 | n+1,b,k,c,z=>D m mt (f2 a b) (qn a b) .none [] [] k c (G m mt a n (b+1) (k+(NK (f2 a b)).length+6) (c+7) z)
noncomputable def kB(P:Params)(m:String)(mt a L:Nat)(z:List DictEntry)(n:Nat):Obj:=dc (d P "__module__" a (s m mt)::d P "__firstlineno__" (a+4) (i L (a+3))::z) n
noncomputable def kA(P:Params)(m:String)(mt a:Nat)(q:String)(L:Nat)(z:List DictEntry)(n:Nat):Obj:=dc (d P "__module__" a (s m mt)::d P "__qualname__" (a+2) (s q (a+1))::d P "__firstlineno__" (a+4) (i L (a+3))::z) n
section
local macro_rules |`($n:num)=>`(nat_lit $n)
noncomputable def Wx(P:Params):List DictEntry:=.cons (d P "__name__" 165 (s "law_nz0059_01" 1876))<|.cons (d P "__doc__" 166 .none)<|.cons (d P "__package__" 167 .none)<|.cons (d P "__loader__" 168 (.builtin "__main__.__loader__#opaque"))<|.cons (d P "__spec__" 169 .none)<|dr P "__annotations__" 170 6<|dr P "__builtins__" 171 4<|.cons (d P "__file__" 173 (s "/claim/cut.py" 172))<|.cons (d P "__cached__" 174 .none)<|dr P "_wall" 193 21<|dr P "SIMPLE_ESCAPES" 229 22<|dr P "OPERATORS" 257 23<|.cons (d P "DEEPEST_KEY" 259 (i 12 258))<|dr P "Thing" 294 40<|dr P "Text" 322 62<|dr P "ListThing" 349 82<|dr P "TableThing" 401 120<|dr P "RangeThing" 432 140<|dr P "ProcThing" 475 161<|dr P "ErrorThing" 503 181<|dr P "FiberThing" 533 201<|dr P "ModuleThing" 580 228<|dr P "Entry" 633 256<|dr P "truth" 640 267<|dr P "sort_of" 647 274<|dr P "same" 656 281<|dr P "code_of" 662 287<|dr P "is_word" 670 382<|dr P "is_word_things" 671 294<|dr P "is_label" 678 301<|dr P "is_plain_symbol" 685 308<|dr P "full_name" 692 315<|dr P "show_letter" 702 322<|dr P "show_text" 708 327<|dr P "show_symbol" 715 334<|dr P "show_pair" 724 341<|dr P "show_range" 734 348<|dr P "show_thing" 740 353<|dr P "show_error" 751 360<|dr P "show" 761 368<|.cons (d P "LETTERS" 765 (s "abcdefghijklmnopqrstuvwxyz" 764))<|.cons (d P "DIGITS" 767 (s "0123456789" 766))<|dr P "name_in" 775 375<|dr P "is_word_coretools" 785 382<|dr P "constant_name" 793 389<|dr P "need_module" 801 396<|dr P "need_mixed" 809 403<|dr P "copy_into" 815 408<|dr P "copy_proc" 823 415<|dr P "copy_module" 833 422<|dr P "copy_of" 842 429<|dr P "make_class" 851 436<|dr P "make_module" 858 443<|dr P "has_thing" 869 450<|dr P "own_line" 878 457<|dr P "ahead_count" 884 462<|dr P "made_line" 890 467<|dr P "line_of" 898 474<|dr P "PRIVATE_NAMES" 903 475<|dr P "PRIVATE_KERNEL" 917 476<|dr P "GivenEntry" 933 486<|dr P "sight_of" 941 495<|dr P "given_entry" 958 502<|dr P "entry_at" 968 509<|dr P "first_entry" 979 516<|dr P "find" 988 523<|dr P "raise_version" 995 530<|dr P "need_unfrozen" 1003 537<|dr P "own_module" 1012 544<|dr P "define" 1021 551<|dr P "place_entry" 1031 558<|dr P "kind_word" 1038 565<|dr P "need_entry" 1048 572<|dr P "undefine" 1057 579<|dr P "remove" 1067 586<|dr P "copied" 1075 593<|dr P "alias" 1086 600<|dr P "set_sight" 1098 607<|dr P "need_mixin" 1108 614<|dr P "include" 1117 621<|dr P "prepend" 1126 628<|dr P "respond" 1137 635<|dr P "object_respond" 1148 642<|dr P "copy_own" 1157 649<|dr P "object_dup" 1167 656<|dr P "object_clone" 1177 663<|dr P "module_name" 1188 670<|dr P "module_line" 1197 677<|dr P "module_include" 1207 684<|dr P "module_prepend" 1217 691<|dr P "module_remove" 1227 698<|dr P "module_undef" 1237 705<|dr P "module_alias" 1247 712<|dr P "constant_from" 1258 719<|dr P "constant_path" 1270 726<|dr P "module_constant" 1279 733<|dr P "module_set_constant" 1288 740<|dr P "class_parent" 1297 747<|dr P "GemError" 1327 765<|dr P "Raised" 1352 785<|dr P "MODULES" 1358 788<|dr P "BUILTINS" 1475 789<|dr P "MIXED" 1497 792<|dr P "UNMADE" 1504 800<|dr P "World" 1867 1055<|dr P "is_around" 1875 1066<|dr P "_law_box" 1886 1073<|dr P "_law_take" 1895 1080<|dr P "_law_error" 1903 1087<|dr P "_law_row" 1911 1094<|dr P "_law_line" 1917 1099<|dr P "_law_found" 1927 1106<|dr P "_law_marked" 1934 1113<|dr P "_law_defined" 1947 1120<|dr P "_law_named" 1967 1127<|dr P "_law_mixed" 1981 1134<|dr P "_law_kept" 1995 1141<|dr P "_law_copied" 2008 1148<|dr P "_law_const" 2018 1155<|dr P "_law_alone" 2027 1162<|dr P "_law_both_right" 2033 1167<|dr P "law" 2051 1174<|[]
noncomputable def BP:List Va:=h 1 20<|h 8 29<|h 17 50<|h 22 70<|h 27 90<|h 47 128<|h 54 148<|h 67 169<|h 73 189<|h 81 209<|h 99 236<|h 116 266<|h 120 273<|h 128 280<|h 133 286<|h 144 293<|h 152 300<|h 154 307<|h 162 314<|h 170 321<|h 180 326<|h 183 333<|h 185 340<|h 189 347<|h 193 352<|h 214 359<|h 220 367<|h 234 374<|h 240 381<|h 248 388<|h 252 395<|h 255 402<|h 258 407<|h 275 414<|h 279 421<|h 288 428<|h 296 435<|h 306 442<|h 309 449<|h 314 456<|h 322 461<|h 324 466<|h 331 473<|h 337 482<|h 339 494<|h 343 501<|h 356 508<|h 363 515<|h 369 522<|h 371 529<|h 373 536<|h 376 543<|h 391 550<|h 395 557<|h 399 564<|h 401 571<|h 408 578<|h 411 585<|h 421 592<|h 423 599<|h 426 606<|h 431 613<|h 437 620<|h 443 627<|h 449 634<|h 453 641<|h 455 648<|h 459 655<|h 464 662<|h 471 669<|h 473 676<|h 475 683<|h 481 690<|h 487 697<|h 491 704<|h 495 711<|h 499 718<|h 504 725<|h 511 732<|h 513 739<|h 516 746<|h 519 753<|h 524 774<|h 534 806<|h 785 1065<|h 792 1072<|h 797 1079<|h 804 1086<|h 810 1093<|h 812 1098<|h 817 1105<|h 822 1112<|h 824 1119<|h 829 1126<|h 852 1133<|h 862 1140<|h 872 1147<|h 881 1154<|h 886 1161<|h 892 1166<|h 917 1173<|[]
noncomputable def Vg(k:Nat):Obj:=cl "Thing" [.type "object"] [r 40,.type "object"] 39 ([r 62,r 82,r 120,r 140,r 161,r 181,r 201,r 228].take k) [none,none,some (s "Thing" 260),some (s "Thing" 268),some (.builtin "object.__new__"),some (.bool true)]
noncomputable def PI(l:List Va):Obj:=cl "Entry" [.type "object"] [r 256,.type "object"] 255 l [none,none,some (s "Entry" 581),some (s "Entry" 589),some (.builtin "object.__new__"),some (.bool true)]
noncomputable def V4(P:Params)(x3 x12:Obj)(z:List Obj):List Obj:=.cons (PySem.W.boot_o_0 P)<|.cons (PySem.W.boot_o_1 P)<|.cons (PySem.W.boot_o_2 P)<|.cons x3<|.cons (PySem.W.boot_o_4 P)<|.cons (PySem.W.boot_o_5 P)<|.cons (PySem.W.boot_o_6 P)<|.cons (PySem.W.boot_o_7 P)<|.cons (PySem.W.boot_o_8 P)<|.cons (PySem.W.boot_o_9 P)<|.cons (PySem.W.boot_o_10 P)<|.cons t0<|.cons x12<|.cons (cb "<module>" 182 1 11)<|.cons (fz 13 3 "__main__" 164)<|D "__main__" 164 (f1 0) (vF (f1 0)) .none [] [] 187 20<|.cons (dc [d P "\\" 196 (s "\\\\" 197),d P "\"" 198 (s "\\\"" 199),d P "\n" 200 (s "\\n" 201),d P "\t" 202 (s "\\t" 203),d P "\x0d" 204 (s "\\r" 205),d P "\x1b" 206 (s "\\e" 207),d P "\x07" 208 (s "\\a" 209),d P "\x08" 210 (s "\\b" 211),d P "\x0b" 212 (s "\\v" 213),d P "\x0c" 214 (s "\\f" 215),d P "\x7f" 216 (s "\\x7F" 217)] 11)<|.cons (tn 230 ["+","-","*","/","%","**","==","!=","<",">","<=",">=","<=>","===","[]","[]=","<<",">>","!","~","+@","-@","&","|","^","=~","!~"])<|.cons t0<|.cons fp<|.cons (kA P "gemrows.things" 194 267 "Thing" 8 [d P "__init__" 280 (r 37),d P "__static_attributes__" 287 (r 38)] 5)<|.cons t0<|.cons (fl (g 10 36<|[]))<|.cons (cb "Thing" 262 8 27)<|.cons (fz 29 26 "gemrows.things" 194)<|D "gemrows.things" 194 (f2 5 0) (qn 5 0) .none [] [] 272 36<|.cons (tn 281 ["fields","frozen","ident","number","own","owner"])<|.cons (kB P "gemrows.things" 194 267 8 [d P "__init__" 280 (r 37),d P "__static_attributes__" 287 (r 38),d P "__dict__" 289 (r 41),d P "__weakref__" 291 (r 42),d P "__doc__" 292 .none] 4)<|.cons (Vg 8)<|.cons (fd (.type "getset_descriptor") [s "__dict__" 288,r 40,.builtin "function.__dict__",.builtin "function.__dict__#set"])<|.cons (fd (.type "getset_descriptor") [s "__weakref__" 290,r 40,.builtin "ExceptionGroup.__weakref__",.none])<|.cons (fs 40)<|.cons (fa 40)<|.cons (t [r 40])<|.cons fp<|.cons (kA P "gemrows.things" 194 302 "Text" 17 [d P "__init__" 317 (r 59),d P "__static_attributes__" 319 (r 60)] 5)<|.cons t0<|.cons (fl (g 19 58<|[]))<|.cons (cb "Text" 297 17 48)<|.cons (fz 50 47 "gemrows.things" 194)<|.cons (t [s "" 307])<|D "gemrows.things" 194 (f2 6 0) (qn 6 0) (r 52) [] [] 308 58<|.cons (t [s "text" 318])<|.cons (kB P "gemrows.things" 194 302 17 [d P "__init__" 317 (r 59),d P "__static_attributes__" 319 (r 60),d P "__doc__" 320 .none] 2)<|.cons (cl "Text" [r 40] [r 62,r 40,.type "object"] 61 [] [some (r 45),none,some (s "Text" 295),some (s "Text" 303),some (.builtin "object.__new__"),some (.bool true)])<|.cons (fs 62)<|.cons (fa 62)<|.cons (t [r 40])<|.cons fp<|.cons (kA P "gemrows.things" 194 330 "ListThing" 22 [d P "__init__" 344 (r 79),d P "__static_attributes__" 346 (r 80)] 5)<|.cons t0<|.cons (fl (g 24 78<|[]))<|.cons (cb "ListThing" 325 22 68)<|.cons (fz 70 67 "gemrows.things" 194)<|.cons (t [.none])<|D "gemrows.things" 194 (f2 7 0) (qn 7 0) (r 72) [] [] 335 78<|.cons (t [s "items" 345])<|.cons (kB P "gemrows.things" 194 330 22 [d P "__init__" 344 (r 79),d P "__static_attributes__" 346 (r 80),d P "__doc__" 347 .none] 2)<|.cons (cl "ListThing" [r 40] [r 82,r 40,.type "object"] 81 [] [some (r 65),none,some (s "ListThing" 323),some (s "ListThing" 331),some (.builtin "object.__new__"),some (.bool true)])<|.cons (fs 82)<|z
noncomputable def V5(P:Params)(x3 x12:Obj)(z:List Obj):List Obj:=.cons (fa 82)<|.cons (t [r 40])<|.cons fp<|.cons (kA P "gemrows.things" 194 357 "TableThing" 27 [d P "__init__" 370 (r 98),d P "put" 381 (r 105),d P "row" 389 (r 112),d P "pairs" 395 (r 117),d P "__static_attributes__" 398 (r 118)] 8)<|.cons t0<|.cons (fl (g 29 97<|g 34 104<|g 42 111<|g 45 116<|[]))<|.cons (cb "TableThing" 352 27 88)<|.cons (fz 90 87 "gemrows.things" 194)<|G "gemrows.things" 194 8 3 0 362 97<|E "gemrows.things" 194 (f2 8 3) (qn 8 3) .none 390 116<|.cons (tn 396 ["rows","spare"])<|.cons (kB P "gemrows.things" 194 357 27 [d P "__init__" 370 (r 98),d P "put" 381 (r 105),d P "row" 389 (r 112),d P "pairs" 395 (r 117),d P "__static_attributes__" 398 (r 118),d P "__doc__" 399 .none] 2)<|.cons (cl "TableThing" [r 40] [r 120,r 40,.type "object"] 119 [] [some (r 85),none,some (s "TableThing" 350),some (s "TableThing" 358),some (.builtin "object.__new__"),some (.bool true)])<|.cons (fs 120)<|.cons (fa 120)<|.cons (t [r 40])<|.cons fp<|.cons (kA P "gemrows.things" 194 409 "RangeThing" 47 [d P "__init__" 425 (r 137),d P "__static_attributes__" 429 (r 138)] 5)<|.cons t0<|.cons (fl (g 49 136<|[]))<|.cons (cb "RangeThing" 404 47 126)<|.cons (fz 128 125 "gemrows.things" 194)<|.cons (t [.none,.none,.bool false])<|D "gemrows.things" 194 (f2 9 0) (qn 9 0) (r 130) [] [] 414 136<|.cons (tn 426 ["first","last","open"])<|.cons (kB P "gemrows.things" 194 409 47 [d P "__init__" 425 (r 137),d P "__static_attributes__" 429 (r 138),d P "__doc__" 430 .none] 2)<|.cons (cl "RangeThing" [r 40] [r 140,r 40,.type "object"] 139 [] [some (r 123),none,some (s "RangeThing" 402),some (s "RangeThing" 410),some (.builtin "object.__new__"),some (.bool true)])<|.cons (fs 140)<|.cons (fa 140)<|.cons (t [r 40])<|.cons fp<|.cons (kA P "gemrows.things" 194 440 "ProcThing" 54 [d P "__init__" 462 (r 158),d P "__static_attributes__" 472 (r 159)] 5)<|.cons t0<|.cons (fl (g 56 157<|[]))<|.cons (cb "ProcThing" 435 54 146)<|.cons (fz 148 145 "gemrows.things" 194)<|.cons t0<|.cons (t [.none,.none,.none,.none,r 150,.none,.none,.bool false,.none])<|D "gemrows.things" 194 (f2 10 0) (qn 10 0) (r 151) [] [] 445 157<|.cons (tn 463 ["body","definer","env","home","is_lambda","nesting","params","self_value","site"])<|.cons (kB P "gemrows.things" 194 440 54 [d P "__init__" 462 (r 158),d P "__static_attributes__" 472 (r 159),d P "__doc__" 473 .none] 2)<|.cons (cl "ProcThing" [r 40] [r 161,r 40,.type "object"] 160 [] [some (r 143),none,some (s "ProcThing" 433),some (s "ProcThing" 441),some (.builtin "object.__new__"),some (.bool true)])<|.cons (fs 161)<|.cons (fa 161)<|.cons (t [r 40])<|.cons fp<|.cons (kA P "gemrows.things" 194 483 "ErrorThing" 67 [d P "__init__" 497 (r 178),d P "__static_attributes__" 500 (r 179)] 5)<|.cons t0<|.cons (fl (g 69 177<|[]))<|.cons (cb "ErrorThing" 478 67 167)<|.cons (fz 169 166 "gemrows.things" 194)<|.cons (t [.none])<|D "gemrows.things" 194 (f2 11 0) (qn 11 0) (r 171) [] [] 488 177<|.cons (tn 498 ["cause","message"])<|.cons (kB P "gemrows.things" 194 483 67 [d P "__init__" 497 (r 178),d P "__static_attributes__" 500 (r 179),d P "__doc__" 501 .none] 2)<|.cons (cl "ErrorThing" [r 40] [r 181,r 40,.type "object"] 180 [] [some (r 164),none,some (s "ErrorThing" 476),some (s "ErrorThing" 484),some (.builtin "object.__new__"),some (.bool true)])<|.cons (fs 181)<|.cons (fa 181)<|z
noncomputable def V6(P:Params)(x3 x12:Obj)(z:List Obj):List Obj:=.cons (t [r 40])<|.cons fp<|.cons (kA P "gemrows.things" 194 511 "FiberThing" 73 [d P "__init__" 525 (r 198),d P "__static_attributes__" 530 (r 199)] 5)<|.cons t0<|.cons (fl (g 75 197<|[]))<|.cons (cb "FiberThing" 506 73 187)<|.cons (fz 189 186 "gemrows.things" 194)<|.cons (t [.none])<|D "gemrows.things" 194 (f2 12 0) (qn 12 0) (r 191) [] [] 516 197<|.cons (tn 526 ["back","proc","rows","state"])<|.cons (kB P "gemrows.things" 194 511 73 [d P "__init__" 525 (r 198),d P "__static_attributes__" 530 (r 199),d P "__doc__" 531 .none] 2)<|.cons (cl "FiberThing" [r 40] [r 201,r 40,.type "object"] 200 [] [some (r 184),none,some (s "FiberThing" 504),some (s "FiberThing" 512),some (.builtin "object.__new__"),some (.bool true)])<|.cons (fs 201)<|.cons (fa 201)<|.cons (t [r 40])<|.cons fp<|.cons (kA P "gemrows.things" 194 541 "ModuleThing" 81 [d P "__init__" 558 (r 218),d P "is_own" 565 (r 225),d P "__static_attributes__" 577 (r 226)] 6)<|.cons t0<|.cons (fl (g 83 217<|g 97 224<|[]))<|.cons (cb "ModuleThing" 536 81 207)<|.cons (fz 209 206 "gemrows.things" 194)<|.cons (t [.none,.bool false,.none,.none])<|D "gemrows.things" 194 (f2 13 0) (qn 13 0) (r 211) [] [] 546 217<|D "gemrows.things" 194 (f2 13 1) (qn 13 1) .none [] [] 559 224<|.cons (tn 566 ["ahead","attached","constants","is_class","kept","methods","mixed","name","native","outer","parent"])<|.cons (kB P "gemrows.things" 194 541 81 [d P "__init__" 558 (r 218),d P "is_own" 565 (r 225),d P "__static_attributes__" 577 (r 226),d P "__doc__" 578 .none] 2)<|.cons (cl "ModuleThing" [r 40] [r 228,r 40,.type "object"] 227 [] [some (r 204),none,some (s "ModuleThing" 534),some (s "ModuleThing" 542),some (.builtin "object.__new__"),some (.bool true)])<|.cons (fs 228)<|.cons (fa 228)<|.cons t0<|.cons fp<|.cons (kA P "gemrows.things" 194 588 "Entry" 99 [d P "__init__" 606 (r 245),d P "moved" 617 (r 253),d P "__static_attributes__" 626 (r 254)] 6)<|.cons t0<|.cons (fl (g 101 244<|g 111 252<|[]))<|.cons (cb "Entry" 583 99 234)<|.cons (fz 236 233 "gemrows.things" 194)<|.cons (t [.none,.none,s "public" 593])<|D "gemrows.things" 194 (f2 14 0) (qn 14 0) (r 238) [] [] 594 244<|.cons (t [.none])<|D "gemrows.things" 194 (f2 14 1) (qn 14 1) (r 246) [] [] 607 252<|.cons (tn 618 ["body","code","name","nesting","owner","params","sight","sort"])<|.cons (kB P "gemrows.things" 194 588 99 [d P "__init__" 606 (r 245),d P "moved" 617 (r 253),d P "__static_attributes__" 626 (r 254),d P "__dict__" 628 (r 257),d P "__weakref__" 630 (r 258),d P "__doc__" 631 .none] 4)<|.cons (PI [r 486])<|.cons (fd (.type "getset_descriptor") [s "__dict__" 627,r 256,.builtin "function.__dict__",.builtin "function.__dict__#set"])<|.cons (fd (.type "getset_descriptor") [s "__weakref__" 629,r 256,.builtin "ExceptionGroup.__weakref__",.none])<|.cons (fs 256)<|.cons (fa 256)<|F "gemrows.things" 194 3 15 634 266<|.cons (t [i 12 258])<|E "gemrows.things" 194 (f1 18) (vF (f1 18)) (r 282) 657 286<|D "gemrows.things" 194 (f1 19) (vF (f1 19)) .none [] [] 663 293<|F "gemrows.things" 194 4 21 672 300<|E "gemrows.things" 194 (f1 25) (vF (f1 25)) .none 703 326<|F "gemrows.things" 194 2 26 709 333<|z
noncomputable def V7(P:Params)(x3 x12:Obj)(z:List Obj):List Obj:=D "gemrows.things" 194 (f1 28) (vF (f1 28)) .none [] [] 725 347<|E "gemrows.things" 194 (f1 29) (vF (f1 29)) .none 735 352<|D "gemrows.things" 194 (f1 30) (vF (f1 30)) .none [] [] 741 359<|.cons (t [i 6 752])<|D "gemrows.things" 194 (f1 31) (vF (f1 31)) (r 361) [] [] 753 367<|F "gemrows.coretools" 762 2 35 768 374<|F "gemrows.coretools" 762 3 38 786 388<|E "gemrows.coretools" 762 (f1 41) (vF (f1 41)) .none 810 407<|F "gemrows.coretools" 762 5 42 816 414<|F "gemrows.lines" 859 2 48 861 449<|E "gemrows.lines" 859 (f1 50) (vF (f1 50)) .none 879 461<|E "gemrows.lines" 859 (f1 51) (vF (f1 51)) .none 885 466<|D "gemrows.lines" 859 (f1 52) (vF (f1 52)) .none [] [] 891 473<|.cons (tn 899 ["initialize","initialize_copy","method_missing","respond_to_missing?"])<|.cons (tn 904 ["puts","print","p","raise","loop","catch","throw","proc","lambda","block_given?","Array","Integer","__write"])<|.cons (t [r 256])<|.cons fp<|.cons (kA P "gemrows.lines" 859 925 "GivenEntry" 337 [d P "__static_attributes__" 930 (r 484)] 4)<|.cons t0<|.cons U3<|.cons (cb "GivenEntry" 920 337 480)<|.cons (fz 482 479 "gemrows.lines" 859)<|.cons t0<|.cons (kB P "gemrows.lines" 859 925 337 [d P "__static_attributes__" 930 (r 484),d P "__doc__" 931 .none] 2)<|.cons (cl "GivenEntry" [r 256] [r 486,r 256,.type "object"] 485 [] [some (r 477),none,some (s "GivenEntry" 918),some (s "GivenEntry" 926),some (.builtin "object.__new__"),some (.bool true)])<|.cons (fs 486)<|.cons (fa 486)<|F "gemrows.lines" 859 21 56 934 494<|F "gemrows.core" 1138 4 78 1140 641<|z
noncomputable def V8(P:Params)(x3 x12:Obj)(z:List Obj):List Obj:=F "gemrows.coremodules" 1178 12 83 1180 669<|.cons (t [.type "ValueError"])<|.cons fp<|.cons (kA P "gemrows.errors" 1298 1307 "GemError" 519 [d P "__init__" 1320 (r 762),d P "__static_attributes__" 1322 (r 763)] 5)<|.cons t0<|.cons (fl (g 521 761<|[]))<|.cons (cb "GemError" 1302 519 751)<|.cons (fz 753 750 "gemrows.errors" 1298)<|.cons (t [s "" 1312])<|D "gemrows.errors" 1298 (f2 96 0) (qn 96 0) (r 755) [] [] 1313 761<|.cons (t [s "reason" 1321])<|.cons (kB P "gemrows.errors" 1298 1307 519 [d P "__init__" 1320 (r 762),d P "__static_attributes__" 1322 (r 763),d P "__weakref__" 1324 (r 766),d P "__doc__" 1325 .none] 3)<|.cons (cl "GemError" [.type "ValueError"] [r 765,.type "ValueError",.type "Exception",.type "BaseException",.type "object"] 764 [r 785] [some (r 748),none,some (s "GemError" 1300),some (s "GemError" 1308),some (.builtin "ValueError.__new__"),some (.bool true)])<|.cons (fd (.type "getset_descriptor") [s "__weakref__" 1323,r 765,.builtin "ExceptionGroup.__weakref__",.none])<|.cons (fs 765)<|.cons (fa 765)<|.cons (t [r 765])<|.cons fp<|.cons (kA P "gemrows.errors" 1298 1335 "Raised" 524 [d P "__init__" 1347 (r 782),d P "__static_attributes__" 1349 (r 783)] 5)<|.cons t0<|.cons (fl (g 526 781<|[]))<|.cons (cb "Raised" 1330 524 772)<|.cons (fz 774 771 "gemrows.errors" 1298)<|D "gemrows.errors" 1298 (f2 97 0) (qn 97 0) .none [] [] 1340 781<|.cons (t [s "thing" 1348])<|.cons (kB P "gemrows.errors" 1298 1335 524 [d P "__init__" 1347 (r 782),d P "__static_attributes__" 1349 (r 783),d P "__doc__" 1350 .none] 2)<|.cons (cl "Raised" [r 765] [r 785,r 765,.type "ValueError",.type "Exception",.type "BaseException",.type "object"] 784 [] [some (r 769),none,some (s "Raised" 1328),some (s "Raised" 1336),some (.builtin "ValueError.__new__"),some (.bool true)])<|.cons (fs 785)<|.cons (fa 785)<|.cons (tn 1355 ["Kernel","Comparable","Enumerable"])<|.cons (dc [d P "BasicObject" 1359 .none,d P "Object" 1361 (s "BasicObject" 1362),d P "Module" 1364 (s "Object" 1365),d P "Class" 1367 (s "Module" 1368),d P "Kernel" 1370 .none,d P "Comparable" 1372 .none,d P "Enumerable" 1374 .none,d P "NilClass" 1376 (s "Object" 1377),d P "TrueClass" 1379 (s "Object" 1380),d P "FalseClass" 1382 (s "Object" 1383),d P "Numeric" 1385 (s "Object" 1386),d P "Integer" 1388 (s "Numeric" 1389),d P "String" 1391 (s "Object" 1392),d P "Symbol" 1394 (s "Object" 1395),d P "Array" 1397 (s "Object" 1398),d P "Hash" 1400 (s "Object" 1401),d P "Range" 1403 (s "Object" 1404),d P "Proc" 1406 (s "Object" 1407),d P "Fiber" 1409 (s "Object" 1410),d P "Exception" 1412 (s "Object" 1413),d P "ScriptError" 1415 (s "Exception" 1416),d P "NotImplementedError" 1418 (s "ScriptError" 1419),d P "SystemStackError" 1421 (s "Exception" 1422),d P "StandardError" 1424 (s "Exception" 1425),d P "ArgumentError" 1427 (s "StandardError" 1428),d P "UncaughtThrowError" 1430 (s "ArgumentError" 1431),d P "FiberError" 1433 (s "StandardError" 1434),d P "IndexError" 1436 (s "StandardError" 1437),d P "KeyError" 1439 (s "IndexError" 1440),d P "StopIteration" 1442 (s "IndexError" 1443),d P "LocalJumpError" 1445 (s "StandardError" 1446),d P "NameError" 1448 (s "StandardError" 1449),d P "NoMethodError" 1451 (s "NameError" 1452),d P "NoMatchingPatternError" 1454 (s "StandardError" 1455),d P "NoMatchingPatternKeyError" 1457 (s "NoMatchingPatternError" 1458),d P "RangeError" 1459 (s "StandardError" 1460),d P "RuntimeError" 1461 (s "StandardError" 1462),d P "FrozenError" 1463 (s "RuntimeError" 1464),d P "TypeError" 1465 (s "StandardError" 1466),d P "ZeroDivisionError" 1467 (s "StandardError" 1468)] 40)<|.cons (dc [d P "Proc" 1406 (s "Object" 1407),d P "Fiber" 1409 (s "Object" 1410),d P "Exception" 1412 (s "Object" 1413),d P "ScriptError" 1415 (s "Exception" 1416),d P "NotImplementedError" 1418 (s "ScriptError" 1419),d P "SystemStackError" 1421 (s "Exception" 1422),d P "StandardError" 1424 (s "Exception" 1425),d P "ArgumentError" 1427 (s "StandardError" 1428),d P "UncaughtThrowError" 1430 (s "ArgumentError" 1431),d P "FiberError" 1433 (s "StandardError" 1434),d P "IndexError" 1436 (s "StandardError" 1437),d P "KeyError" 1439 (s "IndexError" 1440),d P "StopIteration" 1442 (s "IndexError" 1443),d P "LocalJumpError" 1445 (s "StandardError" 1446),d P "NameError" 1448 (s "StandardError" 1449),d P "NoMethodError" 1451 (s "NameError" 1452),d P "NoMatchingPatternError" 1454 (s "StandardError" 1455)] 17)<|.cons (dc [d P "NoMatchingPatternKeyError" 1457 (s "NoMatchingPatternError" 1458),d P "RangeError" 1459 (s "StandardError" 1460),d P "RuntimeError" 1461 (s "StandardError" 1462),d P "FrozenError" 1463 (s "RuntimeError" 1464),d P "TypeError" 1465 (s "StandardError" 1466),d P "ZeroDivisionError" 1467 (s "StandardError" 1468)] 6)<|.cons (dc [d P "Object" 1476 (r 793),d P "Numeric" 1478 (r 794),d P "String" 1480 (r 795),d P "Symbol" 1482 (r 796),d P "Array" 1484 (r 797),d P "Hash" 1486 (r 798),d P "Range" 1488 (r 799)] 7)<|.cons (t [s "Kernel" 1477])<|.cons (t [s "Comparable" 1479])<|.cons (t [s "Comparable" 1481])<|.cons (t [s "Comparable" 1483])<|.cons (t [s "Enumerable" 1485])<|.cons (t [s "Enumerable" 1487])<|.cons (t [s "Enumerable" 1489])<|.cons (tn 1498 ["NilClass","TrueClass","FalseClass","Integer","Numeric","Symbol"])<|.cons t0<|.cons fp<|.cons (kA P "gemrows.world" 1353 1512 "World" 534 [d P "__init__" 1529 (r 815),d P "tick" 1536 (r 822),d P "write" 1544 (r 829),d P "number" 1551 (r 836),d P "next_ident" 1558 (r 843),d P "ident" 1567 (r 850),d P "builtin" 1576 (r 857),d P "make_builtin" 1582 (r 862),d P "give_own" 1590 (r 869),d P "new_module" 1605 (r 877),d P "class_of" 1613 (r 884),d P "own_of" 1621 (r 891),d P "own_behind" 1630 (r 898),d P "root_of" 1638 (r 905),d P "real_class" 1646 (r 912),d P "text" 1654 (r 919),d P "list_of" 1662 (r 926),d P "table_of" 1670 (r 933),d P "key_of" 1678 (r 940),d P "range_of" 1688 (r 947),d P "proc" 1705 (r 954),d P "thing" 1715 (r 961),d P "is_error_class" 1723 (r 968),d P "spread" 1731 (r 975),d P "error" 1740 (r 982),d P "fail" 1749 (r 989),d P "need_thawed" 1758 (r 996),d P "set_field" 1768 (r 1003),d P "describe" 1776 (r 1010),d P "own_constant" 1785 (r 1017),d P "find_constant" 1798 (r 1024),d P "constant" 1809 (r 1031),d P "find_in" 1821 (r 1038),d P "constant_in" 1833 (r 1045),d P "set_constant" 1844 (r 1052),d P "__static_attributes__" 1860 (r 1053)] 39)<|.cons t0<|.cons (fl (g 536 814<|g 556 821<|g 559 828<|g 562 835<|g 566 842<|g 570 849<|g 586 856<|g 590 861<|g 603 868<|g 607 876<|g 616 883<|g 625 890<|g 632 897<|g 640 904<|g 645 911<|g 650 918<|g 653 925<|g 656 932<|g 659 939<|g 662 946<|g 665 953<|g 669 960<|g 695 967<|g 702 974<|g 705 981<|g 708 988<|g 711 995<|g 716 1002<|g 719 1009<|g 730 1016<|g 737 1023<|g 750 1030<|g 756 1037<|g 766 1044<|g 775 1051<|[]))<|.cons (cb "World" 1507 534 804)<|.cons (fz 806 803 "gemrows.world" 1353)<|z
noncomputable def V9(P:Params)(x3 x12:Obj)(z:List Obj):List Obj:=.cons (t [.none,.none,i 20000 1517])<|D "gemrows.world" 1353 (f2 103 0) (qn 103 0) (r 808) [] [] 1518 814<|G "gemrows.world" 1353 103 6 1 1530 821<|E "gemrows.world" 1353 (f2 103 7) (qn 103 7) .none 1577 861<|D "gemrows.world" 1353 (f2 103 8) (qn 103 8) .none [] [] 1583 868<|.cons (t [.none,.none,.none])<|D "gemrows.world" 1353 (f2 103 9) (qn 103 9) (r 870) [] [] 1591 876<|G "gemrows.world" 1353 103 25 10 1606 883<|.cons (tn 1845 ["const_version","globals","is_ready","last_ident","last_number","made","main","most","natives","out","prelude","read","symbol_idents","taken","version"])<|.cons (kB P "gemrows.world" 1353 1512 534 [d P "__init__" 1529 (r 815),d P "tick" 1536 (r 822),d P "write" 1544 (r 829),d P "number" 1551 (r 836),d P "next_ident" 1558 (r 843),d P "ident" 1567 (r 850),d P "builtin" 1576 (r 857),d P "make_builtin" 1582 (r 862),d P "give_own" 1590 (r 869),d P "new_module" 1605 (r 877),d P "class_of" 1613 (r 884),d P "own_of" 1621 (r 891),d P "own_behind" 1630 (r 898),d P "root_of" 1638 (r 905),d P "real_class" 1646 (r 912),d P "text" 1654 (r 919),d P "list_of" 1662 (r 926),d P "table_of" 1670 (r 933),d P "key_of" 1678 (r 940),d P "range_of" 1688 (r 947),d P "proc" 1705 (r 954),d P "thing" 1715 (r 961),d P "is_error_class" 1723 (r 968),d P "spread" 1731 (r 975),d P "error" 1740 (r 982),d P "fail" 1749 (r 989),d P "need_thawed" 1758 (r 996),d P "set_field" 1768 (r 1003),d P "describe" 1776 (r 1010),d P "own_constant" 1785 (r 1017),d P "find_constant" 1798 (r 1024),d P "constant" 1809 (r 1031),d P "find_in" 1821 (r 1038),d P "constant_in" 1833 (r 1045),d P "set_constant" 1844 (r 1052),d P "__static_attributes__" 1860 (r 1053),d P "__dict__" 1862 (r 1056),d P "__weakref__" 1864 (r 1057),d P "__doc__" 1865 .none] 4)<|.cons (cl "World" [.type "object"] [r 1055,.type "object"] 1054 [] [none,none,some (s "World" 1505),some (s "World" 1513),some (.builtin "object.__new__"),some (.bool true)])<|.cons (fd (.type "getset_descriptor") [s "__dict__" 1861,r 1055,.builtin "function.__dict__",.builtin "function.__dict__#set"])<|.cons (fd (.type "getset_descriptor") [s "__weakref__" 1863,r 1055,.builtin "ExceptionGroup.__weakref__",.none])<|.cons (fs 1055)<|.cons (fa 1055)<|D "gemrows.world" 1353 (f1 104) (vF (f1 104)) .none [] [] 1868 1065<|F "law_nz0059_01" 1876 4 106 1878 1072<|E "law_nz0059_01" 1876 (f1 110) (vF (f1 110)) .none 1912 1098<|F "law_nz0059_01" 1876 3 111 1918 1105<|.cons t0<|.cons U3<|.cons (tn 1951 ["box","world","rows","name","turn","way","known","table","acts","lacks"])<|.cons (tn 1961 ["world","more","term","thing"])<|.cons (ft (f1 114) "_law_named")<|.cons (co [s "_law_named" 1948,s "_law_named" 1949,s "/claim/cut.py" 1950,i 829 0,i 5 0,i 0 0,i 0 0,i 3 0,r 1121,.bool true,i 181 0,r 1122,.none,r 1123,r 1124,r 1125,i 1965 0,i 829 0,s "/claim/cut.py" 1966])<|.cons (fn (f1 114) "_law_named" .none "law_nz0059_01" 1876 1126)<|z
noncomputable def Wa(P:Params)(x3 x12:Obj)(z:List Obj):List Obj:=F "law_nz0059_01" 1876 5 115 1968 1133<|E "law_nz0059_01" 1876 (f1 120) (vF (f1 120)) .none 2028 1166<|D "law_nz0059_01" 1876 (f1 121) (vF (f1 121)) .none [] [] 2034 1173<|z
end
noncomputable def obs(P:Params)(x3 x12:Obj):List Obj:=V4 P x3 x12 (V5 P x3 x12 (V6 P x3 x12 (V7 P x3 x12 (V8 P x3 x12 (V9 P x3 x12 (Wa P x3 x12 []))))))
noncomputable def Vm:List Obj->List Obj × List Obj
 | []=>([],[])
 | x::r=>let p:=Vm r;(x::p.2,p.1)
noncomputable def bt:Nat->List Obj->BT
 | 0,_=>.nil
 | f+1,l=>match l with
  | []=>.nil
  | x::r=>let p:=Vm r;.node x (bt f p.1) (bt f p.2)
noncomputable def qN(P:Params)(k:Nat)(m:String)(mt:Nat):Obj:=dc (d P "__name__" 165 (s m mt)::((Wx P).drop 1).take k) (k+1)
noncomputable def Qh(P:Params):BT:=bt 12 ((obs P (boot_o_3 P) (fl [])).take 15)
noncomputable def st1(P:Params):BT:=bt 12 ((obs P (qN P 12 "gemrows.things" 194) (fl (BP.take 3))).take 24)
noncomputable def Vn(P:Params):BT:=bt 12 (((obs P (qN P 17 "gemrows.things" 194) (fl (BP.take 18))).take 143).set 40 (Vg 4))
noncomputable def Vo(P:Params):BT:=bt 12 (((obs P (qN P 22 "gemrows.things" 194) (fl (BP.take 33))).take 261).set 256 (PI []))
noncomputable def Vp(P:Params):BT:=bt 12 (((obs P (qN P 59 "gemrows.lines" 859) (fl (BP.take 129))).take 477).set 256 (PI []))
noncomputable def Vq(P:Params):BT:=bt 12 ((obs P (qN P 81 "gemrows.lines" 859) (fl (BP.take 195))).take 636)
noncomputable def st2(P:Params):BT:=bt 12 ((obs P (qN P 100 "gemrows.world" 1353) (fl (BP.take 249))).take 789)
noncomputable def st3(P:Params):BT:=bt 12 ((obs P (qN P 103 "gemrows.world" 1353) (fl (BP.take 249))).take 801)
noncomputable def B0(P:Params):BT:=bt 12 (obs P (qN P 121 "law_nz0059_01" 1876) (fl BP))
noncomputable def sM:Env:={ scope:=pw.main.scope,locals:=mainNs,globals:=mainNs,cells:=[],code:=.ref 13,frame:=some 14 }
noncomputable abbrev tf:List Frame:=[topFrame ⟨0,0,0,0⟩]
noncomputable abbrev sh(T:BT)(n k:Nat)(os:OsState):SharedT:=⟨T,n,{},#[],{},k,os⟩
noncomputable abbrev Gf:String:="special-get-raises"
abbrev Seg(w:World)(p:Program)(b:List Stmt)(os:OsState)(N:Nat)(T T':Params->BT)(n k n' k':Nat)(l:List Stmt)(q q':Pos):Prop:=segRunT treeTable p w 11 (some (.ref 6)) 1 N (sh (T w.params) n k os) (piecesOf l sM (.body b sM) q tf)=some (.next,sh (T' w.params) n' k' os,.body b sM,q')
noncomputable abbrev A1:List Stmt:=pw.main.body.take 5
noncomputable abbrev A2:List Stmt:=(pw.main.body.drop 5).take 95
noncomputable abbrev A3:List Stmt:=(pw.main.body.drop 100).take 3
noncomputable abbrev A4:List Stmt:=pw.main.body.drop 103
theorem Sz(w:World):∀ p b os,Seg (w.withFollow Gf false) p b os 260 Qh st1 15 187 24 260 A1 ⟨0,0,0,0⟩ ⟨7,0,7,11⟩:=by intro p b os;unfold Seg;rw[iy,iw];kernel_rfl
theorem SA(w:World):∀ p b os,Seg (w.withFollow Gf true) p b os 260 Qh st1 15 187 24 260 A1 ⟨0,0,0,0⟩ ⟨7,0,7,11⟩:=by intro p b os;unfold Seg;rw[iy,iw];kernel_rfl
theorem SD(w:World):∀ p b os,Seg w p b os 1320 st1 Vn 24 260 143 433 (A2.take 5) ⟨7,0,7,11⟩ ⟨47,0,53,27⟩:=by intro p b os;unfold Seg;rw[iy,iw];kernel_rfl
theorem SG(w:World):∀ p b os,Seg w p b os 1331 Vn Vo 143 433 261 634 ((A2.drop 5).take 5) ⟨47,0,53,27⟩ ⟨99,0,115,20⟩:=by intro p b os;unfold Seg;rw[iy,iw];kernel_rfl
theorem SH(w:World):∀ p b os,Seg w p b os 1045 Vo Vp 261 634 477 918 ((A2.drop 10).take 40) ⟨99,0,115,20⟩ ⟨336,0,336,14⟩:=by intro p b os;unfold Seg;rw[iy,iw];kernel_rfl
theorem SI(w:World):∀ p b os,Seg w p b os 880 Vp Vq 477 918 636 1138 ((A2.drop 50).take 22) ⟨336,0,336,14⟩ ⟨449,0,451,72⟩:=by intro p b os;unfold Seg;rw[iy,iw];kernel_rfl
theorem SJ(w:World):∀ p b os,Seg w p b os 1023 Vq st2 636 1138 789 1359 (A2.drop 72) ⟨449,0,451,72⟩ ⟨530,0,530,7⟩:=by intro p b os;unfold Seg;rw[iy,iw];kernel_rfl
theorem SK(w:World):∀ p b os,Seg (w.withFollow Gf false) p b os 904 st2 st3 789 1359 801 1505 A3 ⟨530,0,530,7⟩ ⟨533,0,533,6⟩:=by intro p b os;unfold Seg;rw[iy,iw];kernel_rfl
theorem SM(w:World):∀ p b os,Seg (w.withFollow Gf true) p b os 904 st2 st3 789 1359 801 1505 A3 ⟨530,0,530,7⟩ ⟨533,0,533,6⟩:=by intro p b os;unfold Seg;rw[iy,iw];kernel_rfl
theorem UG(w:World):∀ p b os,Seg w p b os 1934 st3 B0 801 1505 1175 2052 A4 ⟨533,0,533,6⟩ ⟨917,0,932,15⟩:=by intro p b os;unfold Seg;rw[iy,iw];kernel_rfl
end HA
end
section
open HA
noncomputable def H1(P:Params):Heap:=absHeap (B0 P) 1175 {}
theorem MA(w:World)(os:OsState):topGo treeTable pw w 11 (some (.ref 6)) 12 ⟨boot_heap w.params,#[],boot_drawn,boot_toks,os⟩ (topStub pw)=some ((sh (Qh w.params) 15 187 os).abs,⟨denote treeTable (.body pw.main.body sM),.body pw.main.body sM,⟨0,0,0,0⟩,[topFrame ⟨0,0,0,0⟩]⟩):=by kernel_rfl
theorem Mz(w:World)(os:OsState):topRun treeTable pw w 11 (some (.ref 6)) 2 (sh (B0 w.params) 1175 2052 os).abs (restOf [] sM (.body pw.main.body sM) ⟨917,0,932,15⟩ [topFrame ⟨0,0,0,0⟩])=some ⟨H1 w.params,#[],{},2052,os⟩:=by kernel_rfl
theorem Gg(w:World)(os:OsState):segRun treeTable pw w 11 (some (.ref 6)) 1 1 (sh (Qh w.params) 15 187 os).abs (blockOf pw.main.body sM (.body pw.main.body sM) ⟨0,0,0,0⟩ [topFrame ⟨0,0,0,0⟩])=some (.next,(sh (Qh w.params) 15 187 os).abs,.body pw.main.body sM,⟨0,0,0,0⟩):=by kernel_rfl
theorem HX{α:Type}(l:List α):l.take 5++(((l.drop 5).take 95).take 5++((((l.drop 5).take 95).drop 5).take 5++((((l.drop 5).take 95).drop 10).take 40++((((l.drop 5).take 95).drop 50).take 22++(((l.drop 5).take 95).drop 72++((l.drop 100).take 3++(l.drop 103++[])))))))=l:=by
 have cut:∀(m:List α) (r:List α),m.take 5++((m.drop 5).take 5++((m.drop 10).take 40++((m.drop 50).take 22++(m.drop 72++r))))=m++r:=λm r=>by have a:=List.take_append_drop 5 (m.drop 5);have b:=List.take_append_drop 40 (m.drop 10);have c:=List.take_append_drop 22 (m.drop 50);rw[List.drop_drop] at a b c;rw[<-i0 ((m.drop 50).take 22),c,<-i0 ((m.drop 10).take 40),b,<-i0 ((m.drop 5).take 5),a,<-i0,List.take_append_drop]
 rw[cut];have h2:=List.take_append_drop 95 (l.drop 5);have h3:=List.take_append_drop 3 (l.drop 100);rw[List.drop_drop] at h2 h3;rw[jk,h3,h2,List.take_append_drop]
theorem JR(w:World)(os:OsState):topRun treeTable pw w 11 (some (.ref 6)) (260+(1320+(1331+(1045+(880+(1023+(904+(1934+2)))))))) (sh (Qh w.params) 15 187 os).abs (restOf pw.main.body sM (.body pw.main.body sM) ⟨0,0,0,0⟩ [topFrame ⟨0,0,0,0⟩])=some ⟨H1 w.params,#[],{},2052,os⟩:=by have s1:=byRow2 Gf (P:=λw=>∀ p b os,Seg w p b os 260 Qh st1 15 187 24 260 A1 ⟨0,0,0,0⟩ ⟨7,0,7,11⟩) Sz SA w pw pw.main.body os;have s3:=byRow2 Gf (P:=λw=>∀ p b os,Seg w p b os 904 st2 st3 789 1359 801 1505 A3 ⟨530,0,530,7⟩ ⟨533,0,533,6⟩) SK SM w pw pw.main.body os;have k:=piece_app (rest:=A2.take 5++((A2.drop 5).take 5++((A2.drop 10).take 40++((A2.drop 50).take 22++(A2.drop 72++(A3++(A4++[]))))))) (segRun_of s1) (piece_app (rest:=(A2.drop 5).take 5++((A2.drop 10).take 40++((A2.drop 50).take 22++(A2.drop 72++(A3++(A4++[])))))) (segRun_of (SD w pw pw.main.body os)) (piece_app (rest:=(A2.drop 10).take 40++((A2.drop 50).take 22++(A2.drop 72++(A3++(A4++[]))))) (segRun_of (SG w pw pw.main.body os)) (piece_app (rest:=(A2.drop 50).take 22++(A2.drop 72++(A3++(A4++[])))) (segRun_of (SH w pw pw.main.body os)) (piece_app (rest:=A2.drop 72++(A3++(A4++[]))) (segRun_of (SI w pw pw.main.body os)) (piece_app (rest:=A3++(A4++[])) (segRun_of (SJ w pw pw.main.body os)) (piece_app (rest:=A4++[]) (segRun_of s3) (piece_app (rest:=[]) (segRun_of (UG w pw pw.main.body os)) (Mz w os))))))));rw[HX] at k;exact k
theorem My:∃ M,Nat.ble M 9000=true/\∀(w:World) (os:OsState),topRun treeTable pw w 11 (some (.ref 6)) M ⟨boot_heap w.params,#[],boot_drawn,boot_toks,os⟩ (topStub pw)=some ⟨H1 w.params,#[],{},2052,os⟩:=⟨_,by rfl,λw os=>go_top (MA w os) (piece_block (Gg w os) (JR w os))⟩
theorem opens(w:World):(fencedOpening treeTable pw w 9000).map (λs=>(s.heap,s.gens,s.drawn,s.toks))=some (boot_heap w.params,#[],boot_drawn,boot_toks):=boot_open (by kernel_rfl) (by rfl) (λ_=>by kernel_rfl) w
theorem sizes(w:World):((boot_heap w.params).isNs mainGlobals&&(#[]:Array GenState).size==0,(boot_heap w.params).objs.size,(boot_heap w.params).nsMap mainGlobals "__annotations__")=(true,11,some (.ref 6)):=by kernel_rfl
theorem RM(w:World)(os:OsState):(staticsOk (importedModules pw.main.body) (boot_heap w.params) (H1 w.params)&&namesBound pw (H1 w.params)&&gensDone ⟨H1 w.params,#[],{},2052,os⟩&&laidKept (boot_heap w.params) (H1 w.params))=true:=by kernel_rfl
theorem RN(w:World)(os:OsState):openSeen qv jY (importedModules pw.main.body) (λs=>xlAt qv [] s&&recOk [] s) true ⟨H1 w.params,#[],{},2052,os⟩=openGood qv jY:=by kernel_rfl
theorem left:LeftO pw qv jY (λs=>xlAt qv [] s&&recOk [] s) (λs=>s.heap) (λw=>H1 w.params) 9000:=by obtain⟨M,le,run⟩:=My;exact LeftO.of_pieces opens sizes run le (λw=>funext λos=>by rw[RM w os,RN w os])
end
theorem cL{α:Type}{c:Prop}[Decidable c]{a p:α}{y:Op α}{G:Prop}(h:(if c then some a else y)=some p)(f:c->a=p->G)(g:y=some p->G):G:=by
 by_cases q:c
 ·rw[ai q] at h;exact f q (kr h)
 ·rw[aa q] at h;exact g h
theorem bB{α:Type}{P:Prop}{x:α}(h:(none:Op α)=some x):P:=by cases h
theorem HZ{α:Type}{P:Prop}{x:α}(h:some x=(none:Op α)):P:=by cases h
theorem gR{P:Prop}(h:false=true):P:=by cases h
theorem lH{P:Prop}(h:true=false):P:=by cases h
local macro_rules
 | `(tactic| cases $h:term)=>`(tactic| first|exact bB $h|exact HZ $h|exact gR $h|exact lH $h|induction $h:term using PySem.Expr.casesOn|induction $h:term|rcases $h:term with⟨⟩)
section
set_option backward.match.sparseCases false
noncomputable abbrev HF:=Ad->Op (Obj->Prop)
noncomputable def ab:Va->Va
 | .int i _=>.int i 0
 | .str s _=>.str s 0
 | v=>v
theorem QU(v:Va):(ab v).ctorIdx=v.ctorIdx:=by cases v<;>rfl
theorem B8{v w:Va}(h:ab v=w):v.ctorIdx=w.ctorIdx:=(QU v).symm.trans (aj Value.ctorIdx h)
theorem uh{v:Va}{a:Ad}(h:ab v=.ref a):v=.ref a:=Value.ref.elim (motive:=λv=>ab v=.ref a->v=.ref a) v (B8 h) (λ_ h=>h) h
theorem Dv{v:Va}(h:ab v=.none):v=.none:=Value.none.elim (motive:=λv=>ab v=.none->v=.none) v (B8 h) (λh=>h) h
theorem KO{v:Va}{b:Bool}(h:ab v=.bool b):v=.bool b:=Value.bool.elim (motive:=λv=>ab v=.bool b->v=.bool b) v (B8 h) (λ_ h=>h) h
theorem TM{v:Va}{i:Int}{t:Tok}(h:ab v=.int i t):∃ t,v=.int i t:=Value.int.elim (motive:=λv=>ab v=.int i t->∃ t,v=.int i t) v (B8 h) (λ_ u h=>⟨u,aj (λx=>Value.int x u) (Value.int.inj h).1⟩) h
theorem TN{v:Va}{x:Str}{t:Tok}(h:ab v=.str x t):∃ t,v=.str x t:=Value.str.elim (motive:=λv=>ab v=.str x t->∃ t,v=.str x t) v (B8 h) (λ_ u h=>⟨u,aj (λx=>Value.str x u) (Value.str.inj h).1⟩) h
theorem Oh{v:Va}{x:String}(h:ab v=.builtin x):v=.builtin x:=Value.builtin.elim (motive:=λv=>ab v=.builtin x->v=.builtin x) v (B8 h) (λ_ h=>h) h
theorem wX{α:Type}{c:Prop}[Decidable c]{x:Op α}{p:α}(h:(if c then x else none)=some p):c/\x=some p:=by
 by_cases q:c
 ·rw[ai q] at h;exact⟨q,h⟩
 ·rw[aa q] at h;exact bB h
theorem eZ{c:Prop}[Decidable c]{α:Type}{a:c->α}{q:α}{G:Prop}(h:(if h:c then some (a h) else none)=some q)(k:∀ hc,a hc=q->G):G:=by
 by_cases hc:c
 ·rw[dif_pos hc] at h;exact k hc (kr h)
 ·rw[dif_neg hc] at h;exact bB h
theorem aN{α β:Type}{x:Op α}{f:α->Op β}{b:β}{G:Prop}(h:x.bind f=some b)(k:∀ a,x=some a->f a=some b->G):G:=(dg h).elim λa h=>k a h.1 h.2
theorem dK{α β:Type}{x:Op α}{f:α->β}{b:β}{G:Prop}(h:x.map f=some b)(k:∀ a,x=some a->f a=b->G):G:=(dw h).elim λa h=>k a h.1 h.2
noncomputable def lX:List Str:=(["number","owner","fields","own","frozen","ident","name","is_class","parent","outer","methods","constants","mixed","ahead","attached","native","kept"]:List Str)++(["text","items","message","cause","sort","params","body","sight","nesting","code","natives","prelude","read","most","taken","last_number","last_ident","symbol_idents","made"]:List Str)++(["version","const_version","globals","out","is_ready","main","reason","thing","rows","spare","first","last","open","env","self_value","home","site","is_lambda","definer","state","proc","back"]:List Str)
noncomputable def nm(c:Nat):Str:=lX.getD c ""
theorem Jm:lX.Nodup:=⋯
theorem Jl{c d:Nat}(hc:c<58)(hd:d<58)(h:nm c=nm d):c=d:=by
 have l:lX.length=58:=⋯;have hc':c<lX.length:=by lia
 have hd':d<lX.length:=by lia
 have h':lX[c]=lX[d]:=by
  have e1:nm c=lX[c]:=by unfold nm;rw[gw,f9 hc'];rfl
  have e2:nm d=lX[d]:=by unfold nm;rw[gw,f9 hd'];rfl
  rw[<-e1,<-e2];exact h
 exact(List.getElem_inj Jm).mp h'
noncomputable def zy(es:List (Nat × Ad)):List Va:=es.flatMap λe=>[rawInt ((e.1/1000:Nat):Int),rawInt ((e.1%1000:Nat):Int),.ref e.2]
noncomputable def sq(k:Nat):Bool:=k<880000
noncomputable def dP(k:Nat):Ad:=if sq k then 1122 else 1164
noncomputable def fC(k:Nat):Ad:=if sq k then 1126 else 1166
noncomputable def gH(k:Nat):Str:=if sq k then "_law_named.<locals>.<lambda>" else "_law_both_right.<locals>.<lambda>"
noncomputable def gT(k:Nat):List Str:=if sq k then(["box","world","rows","name","turn","way","known","table","acts","lacks","more","term","thing","_law_take","_law_found","_law_error"]:List Str) else
 (["world","rows","names","name","line","thing","due","known","heard","alone","row","term"]:List Str)++(["module_line","len","_law_line","_law_found","_law_marked","find","object_respond","_law_error","module_constant","_law_const","_law_alone","class_parent"]:List Str)
inductive Prim
 | is|dU|eq|ne|lt|gt|isin|oN|add|mul|mod|fdiv|pow
 | tup|list|iM|item|rev|upto|AO|len|abs|int|sum|jD|o5|iV|enum|range
 | jM (t:String)|bZ (C:Ad)|upper|split|ry|uU|pop|append|extend|BO
mutual
inductive T
 | con (v:Va)
 | loc (i:Nat)
 | attr (o:T) (x:Nat)
 | aS (o:T) (m:Nat) (as:TL)
 | call (f:Ad) (as:TL)
 | Ay (f:T) (as:TL)
 | make (C:Ad) (as:TL)
 | prim (p:Prim) (as:TL)
 | bm (p:Prim) (o:T) (as:TL)
 | and (a b:T)
 | or (a b:T)
 | not (a:T)
 | bF (c a b:T)
 | lc (caps:List (Op Nat)) (k:Nat) (iter elt test:T)
 | lam (k:Nat) (is:List Nat) (b:T)
 | AJ (ks:List Str) (as:TL)
 | bad
inductive TL
 | nil
 | cons (a:T) (r:TL)
end
inductive U
 | skip
 | expr (t:T)
 | dR (i:Nat) (t:T)
 | iI (is:List Nat) (t:T)
 | bI (o:T) (x:Nat) (v:T)
 | mR (o1:T) (x1:Nat) (o2:T) (x2:Nat) (v1 v2:T)
 | fG (o i v:T)
 | mT (o1 i1 o2 i2:T) (v1 v2:T)
 | aug (o:T) (x:Nat) (v:T)
 | bF (c:T) (a b:U)
 | seq (a b:U)
 | ret (t:T)
 | loop (i:Nat) (it:T) (body:U)
 | sr (i j:Nat) (it:T) (body:U)
 | qp (i:Nat) (n:T) (body:U)
 | s9 (c:T) (body:U)
 | FZ (t:T)
 | Dc (a:T) (i:Nat) (s:Str) (k1 k2 k3:Nat)
 | bad
noncomputable def y9(k:Nat):T:=
 if k=833000 then .call 698 (.cons (.loc 2) (.cons (.loc 1) (.cons (.prim .list (.cons (.loc 0) .nil)) .nil)))
 else if k=834000 then .call 705 (.cons (.loc 2) (.cons (.loc 1) (.cons (.prim .list (.cons (.loc 0) .nil)) .nil)))
 else if k=836000 then .call 712 (.cons (.loc 3) (.cons (.loc 2) (.cons (.prim .list (.cons (.loc 0) (.cons (.loc 1) .nil))) .nil)))
 else if k=837000 then .call 607 (.cons (.loc 2) (.cons (.loc 1) (.cons (.prim .list (.cons (.loc 0) .nil)) (.cons (.con (.str "private" 0)) .nil))))
 else .call 733 (.cons (.loc 2) (.cons (.prim .item (.cons (.loc 0) (.cons (.con (.str "thing" 0)) .nil))) (.cons (.prim .list (.cons (.loc 1) .nil)) .nil)))
noncomputable def gZ:List Str:=(["builtin","class_of","own_of","own_behind","root_of","is_own","number","text","thing","list_of","new_module","give_own","make_builtin","find_in","own_constant","constant_in"]:List Str)++(["set_constant","need_thawed","is_error_class","error","fail","moved","describe","real_class"]:List Str)
noncomputable def qs:List ((Ad × Nat) × Ad):=[((1055,6),836),((1055,0),857),((1055,12),862),((1055,11),869),((1055,10),877),((1055,1),884),((1055,2),891),((1055,3),898),((1055,4),905),((1055,23),912),((1055,7),919),((1055,9),926),((1055,8),961),((1055,18),968),((1055,19),982),((1055,20),989),((1055,17),996),((1055,22),1010),((1055,14),1017),((1055,13),1038),((1055,15),1045),((1055,16),1052),((228,5),225),((256,21),253),((40,99),37),((62,99),59),((82,99),79),((181,99),178),((228,99),218),((256,99),245),((1055,99),815)]
noncomputable def Im:List (Ad × List Nat):=[(228,[0,1,2,3,4,5,6,7,8,9,10,11,12,13,14,15,16]),(40,[0,1,2,3,4,5]),(62,[0,1,2,3,4,5,17]),(82,[0,1,2,3,4,5,18]),(181,[0,1,2,3,4,5,19,20]),(256,[6,1,21,22,23,24,25,26]),(1055,[27,28,29,30,31,32,33,34,35,36,37,38,39,40,41])]
noncomputable def gS(C:Ad)(x:Nat):Bool:=((Im.lookup C).map λl=>l.contains x).getD false
theorem xU:∀{x:Op Bool},x.getD false=true->x=some true
 | none,h=>gR h
 | some _,h=>aj some h
noncomputable def yv:List Ad:=[1120,1127,1134,1141]
noncomputable def bO(C:Ad)(m:Nat):Op Ad:=qs.lookup (C,m)
noncomputable def bL(m:Nat):Op Nat:=lX.findIdx? (·==gZ.getD m "")
noncomputable abbrev NS:=List (Str × NameKind)
section
variable(K:Frag)
noncomputable def gl(x:Str):Op Va:=(nsIn K mainGlobals x).bind λo=>o.or (if x==("__name__":Str) then none else bootBuiltins x)
noncomputable def NR(x:Str)(i:Nat)(k:NameKind):Op T:=if k=.globalImplicit then(gl K x).map λv=>.con (ab v) else if k=.globalExplicit then none else some (.loc i)
noncomputable def dQ(ns:NS)(x:Str):T:=if x==("__debug__":Str)||x==("__classdict__":Str) then .bad else((ns.findIdx? (λq=>q.1==x)).bind λi=>(ns[i]?).bind λq=>NR K x i q.2).getD .bad
noncomputable def constOf(e:Expr):Op (Const):=if h:e.ctorIdx=19 then some (Expr.Constant.elim (motive_1:=λ_=>Const) e h λa u p=>a) else none
theorem uP{e:Expr}{q:Const}(h:constOf e=some q):∃ u p,e=.Constant q u p:=eZ h λhc=>Expr.Constant.elim (motive_1:=λe=>∀ hc:e.ctorIdx=19,Expr.Constant.elim (motive_1:=λ_=>Const) e hc (λa u p=>a)=q->∃ u p,e=.Constant q u p) e hc (λa u p _ h=>⟨u,p,aj (λk=>Expr.Constant k u p) h⟩) hc
noncomputable def nameQ(e:Expr):Op (Str × Pos):=if h:e.ctorIdx=23 then some (Expr.Name.elim (motive_1:=λ_=>Str × Pos) e h λa p=>(a,p)) else none
theorem Je{e:Expr}{q:Str × Pos}(h:nameQ e=some q):e=.Name q.1 q.2:=eZ h λhc=>Expr.Name.elim (motive_1:=λe=>∀ hc:e.ctorIdx=23,Expr.Name.elim (motive_1:=λ_=>Str × Pos) e hc (λa p=>(a,p))=q->e=.Name q.1 q.2) e hc (λa p _ h=>h▸rfl) hc
noncomputable def DA(e:Expr):Op (Expr × Str × Pos):=if h:e.ctorIdx=20 then some (Expr.Attribute.elim (motive_1:=λ_=>Expr × Str × Pos) e h λa b p=>(a,b,p)) else none
theorem uu{e:Expr}{q:Expr × Str × Pos}(h:DA e=some q):e=.Attribute q.1 q.2.1 q.2.2:=eZ h λhc=>Expr.Attribute.elim (motive_1:=λe=>∀ hc:e.ctorIdx=20,Expr.Attribute.elim (motive_1:=λ_=>Expr × Str × Pos) e hc (λa b p=>(a,b,p))=q->e=.Attribute q.1 q.2.1 q.2.2) e hc (λa b p _ h=>h▸rfl) hc
noncomputable def uJ(e:Expr):Op (Expr × List Expr × List Keyword × Pos):=if h:e.ctorIdx=16 then some (Expr.Call.elim (motive_1:=λ_=>Expr × List Expr × List Keyword × Pos) e h λa b k p=>(a,b,k,p)) else none
theorem qY{e:Expr}{q:Expr × List Expr × List Keyword × Pos}(h:uJ e=some q):e=.Call q.1 q.2.1 q.2.2.1 q.2.2.2:=eZ h λhc=>Expr.Call.elim (motive_1:=λe=>∀ hc:e.ctorIdx=16,Expr.Call.elim (motive_1:=λ_=>Expr × List Expr × List Keyword × Pos) e hc (λa b k p=>(a,b,k,p))=q->e=.Call q.1 q.2.1 q.2.2.1 q.2.2.2) e hc (λa b k p _ h=>h▸rfl) hc
noncomputable def Qo(e:Expr):Op (List Expr):=if h:e.ctorIdx=25 then some (Expr.Tuple.elim (motive_1:=λ_=>List Expr) e h λa u p=>a) else none
theorem MS{e:Expr}{q:List Expr}(h:Qo e=some q):∃ u p,e=.Tuple q u p:=eZ h λhc=>Expr.Tuple.elim (motive_1:=λe=>∀ hc:e.ctorIdx=25,Expr.Tuple.elim (motive_1:=λ_=>List Expr) e hc (λa u p=>a)=q->∃ u p,e=.Tuple q u p) e hc (λa u p _ h=>⟨u,p,aj (λk=>Expr.Tuple k u p) h⟩) hc
noncomputable def itemOf(e:Expr):Op (Expr × Expr):=if h:e.ctorIdx=21 then some (Expr.Subscript.elim (motive_1:=λ_=>Expr × Expr) e h λa b p=>(a,b)) else none
theorem xY{e:Expr}{q:Expr × Expr}(h:itemOf e=some q):∃ p,e=.Subscript q.1 q.2 p:=eZ h λhc=>Expr.Subscript.elim (motive_1:=λe=>∀ hc:e.ctorIdx=21,Expr.Subscript.elim (motive_1:=λ_=>Expr × Expr) e hc (λa b p=>(a,b))=q->∃ p,e=.Subscript q.1 q.2 p) e hc (λa b p _ h=>⟨p,h▸rfl⟩) hc
noncomputable def sliceOf(e:Expr):Op (Op Expr × Op Expr × Op Expr):=if h:e.ctorIdx=26 then some (Expr.Slice.elim (motive_1:=λ_=>Op Expr × Op Expr × Op Expr) e h λa b c p=>(a,b,c)) else none
theorem C1{e:Expr}{q:Op Expr × Op Expr × Op Expr}(h:sliceOf e=some q):∃ p,e=.Slice q.1 q.2.1 q.2.2 p:=eZ h λhc=>Expr.Slice.elim (motive_1:=λe=>∀ hc:e.ctorIdx=26,Expr.Slice.elim (motive_1:=λ_=>Op Expr × Op Expr × Op Expr) e hc (λa b c p=>(a,b,c))=q->∃ p,e=.Slice q.1 q.2.1 q.2.2 p) e hc (λa b c p _ h=>⟨p,h▸rfl⟩) hc
noncomputable def Tc(e:Expr):Op (UnaryOp × Expr):=if h:e.ctorIdx=3 then some (Expr.UnaryOp.elim (motive_1:=λ_=>UnaryOp × Expr) e h λa b p=>(a,b)) else none
theorem MX{e:Expr}{q:UnaryOp × Expr}(h:Tc e=some q):∃ p,e=.UnaryOp q.1 q.2 p:=eZ h λhc=>Expr.UnaryOp.elim (motive_1:=λe=>∀ hc:e.ctorIdx=3,Expr.UnaryOp.elim (motive_1:=λ_=>UnaryOp × Expr) e hc (λa b p=>(a,b))=q->∃ p,e=.UnaryOp q.1 q.2 p) e hc (λa b p _ h=>⟨p,h▸rfl⟩) hc
noncomputable def Nc(e:Expr):Op (Expr × Operator × Expr):=if h:e.ctorIdx=2 then some (Expr.BinOp.elim (motive_1:=λ_=>Expr × Operator × Expr) e h λa b c p=>(a,b,c)) else none
theorem Hq{e:Expr}{q:Expr × Operator × Expr}(h:Nc e=some q):∃ p,e=.BinOp q.1 q.2.1 q.2.2 p:=eZ h λhc=>Expr.BinOp.elim (motive_1:=λe=>∀ hc:e.ctorIdx=2,Expr.BinOp.elim (motive_1:=λ_=>Expr × Operator × Expr) e hc (λa b c p=>(a,b,c))=q->∃ p,e=.BinOp q.1 q.2.1 q.2.2 p) e hc (λa b c p _ h=>⟨p,h▸rfl⟩) hc
noncomputable def Ij(e:Stmt):Op (Expr):=if h:e.ctorIdx=24 then some (Stmt.Expr.elim (motive_2:=λ_=>Expr) e h λa p=>a) else none
theorem E5{e:Stmt}{q:Expr}(h:Ij e=some q):∃ p,e=.Expr q p:=eZ h λhc=>Stmt.Expr.elim (motive_2:=λe=>∀ hc:e.ctorIdx=24,Stmt.Expr.elim (motive_2:=λ_=>Expr) e hc (λa p=>a)=q->∃ p,e=.Expr q p) e hc (λa p _ h=>⟨p,h▸rfl⟩) hc
noncomputable def Su(e:Stmt):Op (Op Expr):=if h:e.ctorIdx=3 then some (Stmt.Return.elim (motive_2:=λ_=>Op Expr) e h λa p=>a) else none
theorem Mu{e:Stmt}{q:Op Expr}(h:Su e=some q):∃ p,e=.Return q p:=eZ h λhc=>Stmt.Return.elim (motive_2:=λe=>∀ hc:e.ctorIdx=3,Stmt.Return.elim (motive_2:=λ_=>Op Expr) e hc (λa p=>a)=q->∃ p,e=.Return q p) e hc (λa p _ h=>⟨p,h▸rfl⟩) hc
noncomputable def cStr(e:Const):Op (Str):=if h:e.ctorIdx=5 then some (Const.str.elim (motive:=λ_=>Str) e h λa=>a) else none
theorem K0{e:Const}{q:Str}(h:cStr e=some q):e=.str q:=eZ h λhc=>Const.str.elim (motive:=λe=>∀ hc:e.ctorIdx=5,Const.str.elim (motive:=λ_=>Str) e hc (λa=>a)=q->e=.str q) e hc (λa _ h=>aj _ h) hc
noncomputable def cInt(e:Const):Op (Int):=if h:e.ctorIdx=2 then some (Const.int.elim (motive:=λ_=>Int) e h λa=>a) else none
theorem KZ{e:Const}{q:Int}(h:cInt e=some q):e=.int q:=eZ h λhc=>Const.int.elim (motive:=λe=>∀ hc:e.ctorIdx=2,Const.int.elim (motive:=λ_=>Int) e hc (λa=>a)=q->e=.int q) e hc (λa _ h=>aj _ h) hc
noncomputable def nameOf(e:Expr):Op Str:=(nameQ e).map (·.1)
theorem iW{e:Expr}{g:Str}(h:nameOf e=some g):∃ p,e=.Name g p:=dK h λq h e=>⟨q.2,(Je h).trans (aj (λx=>Expr.Name x q.2) e)⟩
noncomputable def isStar(e:Expr):Bool:=Nat.beq e.ctorIdx 22
noncomputable def mF(g:Expr->T):List Expr->TL
 | []=>.nil
 | e::r=>.cons (g e) (mF g r)
noncomputable def fY(g:Expr->T)(es:List Expr):TL:=if es.any isStar then .cons .bad .nil else mF g es
noncomputable def UX:Data->Op FuncData
 | .func f=>some f
 | _=>none
theorem Lj{d:Data}{f:FuncData}(h:UX d=some f):d=.func f:=by cases d<;>first|exact bB h|exact aj _ (kr h)
noncomputable def To(a:Ad):Op FuncData:=(K.lookup a).bind λo=>UX o.data
theorem DR{a:Ad}{f:FuncData}(h:To K a=some f):∃ o,K.lookup a=some o/\o.data=.func f:=(dg h).imp λ_ h=>⟨h.1,Lj h.2⟩
noncomputable def u9(a:Ad):Bool:=(To K a).isSome
noncomputable def DL:CmpOp->Op Prim
 | .Eq=>some .eq
 | .NotEq=>some .ne
 | .Lt=>some .lt
 | .Gt=>some .gt
 | .In=>some .isin
 | .NotIn=>some .oN
 | .Is=>some .is
 | .IsNot=>some .dU
 | _=>none
noncomputable def binOp:Operator->Op Prim
 | .Add=>some .add
 | .Mult=>some .mul
 | .Mod=>some .mod
 | .FloorDiv=>some .fdiv
 | .Pow=>some .pow
 | _=>none
noncomputable def isSet(e:Expr):Bool:=Nat.beq e.ctorIdx 7
noncomputable def fJ(e:Expr):Bool:=((uJ e).map λq=>(nameQ q.1).isSome&&q.2.1.isEmpty&&q.2.2.1.isEmpty).getD false
inductive BM:Str->Nat->Prim->Prop
 | ry:BM "get" 1 .ry
 | uU:BM "get" 2 .uU
 | pop:BM "pop" 1 .pop
 | append:BM "append" 1 .append
 | extend:BM "extend" 1 .extend
 | upper:BM "upper" 0 .upper
 | split:BM "split" 1 .split
noncomputable def DC(x:Str)(k:Nat):Op Prim:=
 if x="get"/\k=1 then some .ry else if x="get"/\k=2 then some .uU else if x="pop"/\k=1 then some .pop else if x="append"/\k=1 then some .append
 else if x="extend"/\k=1 then some .extend else if x="upper"/\k=0 then some .upper else if x="split"/\k=1 then some .split else none
theorem Q3{x:Str}{k:Nat}{p:Prim}(h:DC x k=some p):BM x k p:=
 cL h (λq e=>q.1▸q.2▸e▸.ry) λh=>cL h (λq e=>q.1▸q.2▸e▸.uU) λh=>cL h (λq e=>q.1▸q.2▸e▸.pop) λh=>cL h (λq e=>q.1▸q.2▸e▸.append) λh=>cL h (λq e=>q.1▸q.2▸e▸.extend) λh=>cL h (λq e=>q.1▸q.2▸e▸.upper) λh=>cL h (λq e=>q.1▸q.2▸e▸.split) bB
inductive B1:Va->Prim->Prop
 | list:B1 (.type "list") .jD
 | dict:B1 (.type "dict") .o5
 | int:B1 (.type "int") .int
 | len:B1 (.builtin "len") .len
 | abs:B1 (.builtin "abs") .abs
 | sum:B1 (.builtin "sum") .sum
noncomputable def b1(v:Va):Op Prim:=match v with
 | .type s=>if s="list" then some .jD else if s="dict" then some .o5 else if s="int" then some .int else none
 | .builtin s=>if s="len" then some .len else if s="abs" then some .abs else if s="sum" then some .sum else none
 | _=>none
inductive B2:Va->Prim->Prop
 | inst (C:Ad):B2 (.ref C) (.bZ C)
 | num (t:String) (h:t="bool"\/t="int"\/t="str"):B2 (.type t) (.jM t)
noncomputable def b2(v:Va):Op Prim:=match v with
 | .ref C=>some (.bZ C)
 | .type t=>if t="bool"\/t="int"\/t="str" then some (.jM t) else none
 | _=>none
noncomputable def HV:T->Op Va
 | .con v=>some v
 | _=>none
noncomputable def RG(v:Va):Bool:=match v with
 | .builtin s=>s=="isinstance"
 | _=>false
noncomputable def Hl(v:Va)(as:List T):T:=match as with
 | [a]=>(match b1 v with
  | some p=>.prim p (.cons a .nil)
  | none=>.bad)
 | [a,c]=>if RG v then(match (HV c).bind b2 with
  | some p=>.prim p (.cons a .nil)
  | none=>.bad) else .bad
 | _=>.bad
noncomputable def Nb(f:Va)(as:List T):T:=match f with
 | .ref a=>if u9 K a then .call a (as.foldr .cons .nil) else if (qs.lookup (a,99)).isSome then .make a (as.foldr .cons .nil) else .bad
 | v=>Hl v as
theorem Na{v:Va}{p:Prim}(h:b1 (ab v)=some p):B1 v p:=by
 cases v<;>first|exact bB h|skip
 ·exact cL h (λq e=>q▸e▸.list) λh=>cL h (λq e=>q▸e▸.dict) λh=>cL h (λq e=>q▸e▸.int) bB
 ·exact cL h (λq e=>q▸e▸.len) λh=>cL h (λq e=>q▸e▸.abs) λh=>cL h (λq e=>q▸e▸.sum) bB
theorem Q2{v:Va}{p:Prim}(h:b2 (ab v)=some p):B2 v p:=by
 cases v<;>first|exact bB h|skip
 ·exact cL h (λq e=>e▸.num _ q) bB
 ·exact kr h▸.inst _
theorem OY{v:Va}(h:RG (ab v)=true):v=.builtin "isinstance":=by
 cases v<;>first|exact gR h|skip
 exact aj _ (eq_of_beq h)
theorem Ld{t:T}{v:Va}(h:HV t=some v):t=.con v:=by
 induction t using T.casesOn<;>first|exact bB h|skip
 rw[kr h]
noncomputable def strOf(e:Expr):Op Str:=(constOf e).bind cStr
theorem By{e:Expr}{s:Str}(h:strOf e=some s):∃ k p,e=.Constant (.str s) k p:=aN h λ_ h e=>(uP h).elim λu h=>h.elim λp h=>⟨u,p,h.trans (aj (λk=>Expr.Constant k u p) (K0 e))⟩
noncomputable def jN:List (Op Expr)->Op (List Str)
 | []=>some []
 | e::r=>(e.bind strOf).bind λs=>(jN r).map (s::·)
noncomputable def qT(e:Expr):Op (Expr × Str):=(DA e).map λq=>(q.1,q.2.1)
noncomputable def Bh{α:Type}:List α->Op α
 | [a]=>some a
 | _=>none
theorem pU{e:Expr}{q:Expr × Str}(h:qT e=some q):∃ p,e=.Attribute q.1 q.2 p:=dK h λr h e=>⟨r.2.2,e▸uu h⟩
theorem k8{α:Type}{l:List α}{a:α}(h:Bh l=some a):l=[a]:=by
 match l,h with
 | [b],h=>rw[kr h]
noncomputable def vc(e:Expr):Op Expr:=(uJ e).bind λc=>(nameOf c.1).bind λl=>(Bh c.2.1).bind λm=>(uJ m).bind λd=>(DA d.1).bind λq=>if l==("list":Str)&&q.2.1==("items":Str)&&d.2.1.isEmpty&&d.2.2.1.isEmpty&&c.2.2.1.isEmpty&&q.2.2.endLine==d.2.2.2.line&&!fJ q.1 then some q.1 else none
noncomputable def yX(s:String):T->Bool
 | .con v=>(match v with
  | .type x=>x==s
  | _=>false)
 | _=>false
noncomputable def qh(v:Va)(as:List Expr):Op Expr:=match v with
 | .type s=>if s=="dict" then(match as with
  | [e]=>vc e
  | _=>none) else none
 | _=>none
noncomputable def II(e:Expr):Bool:=((constOf e).bind cInt)==some 1
noncomputable def S8:UnaryOp->Bool
 | .USub=>true
 | _=>false
noncomputable def IG(e:Expr):Bool:=((Tc e).map λq=>S8 q.1&&II q.2).getD false
noncomputable def Qc(a b c:Op Expr):Op (Prim × Op Expr):=(if a.isNone&&b.isNone then c.bind λe=>if IG e then some (.rev,none) else none else none).or
 ((if a.isNone&&c.isNone then b.map λk=>(.upto,some k) else none).or (a.bind λe=>if II e&&b.isNone&&c.isNone then some (.AO,none) else none))
noncomputable def zJ(e:Expr):Op (Prim × Op Expr):=(sliceOf e).bind λq=>Qc q.1 q.2.1 q.2.2
noncomputable def isSlice(e:Expr):Bool:=Nat.beq e.ctorIdx 26
noncomputable def mE(ns:NS)(q:Str × NameKind):Op Nat:=if q.2==.free then ns.findIdx? (λp=>p.1==q.1) else none
noncomputable def iS(ns:NS)(l:NS):NS:=l.map λ(n,k)=>if (k==.free&&ns.lookup n==some .cell) then(n,.cell) else(n,k)
noncomputable def Fd(q:Op (Str × NameKind)):Bool:=(q.map λp=>p.2==.local).getD false
noncomputable def D3(q:Op (Str × NameKind)):Bool:=(q.map λp=>p.2==.cell).getD false
noncomputable def A6(ns:NS)(sc:Scope)(k:Nat):Bool:=sc.kind==.function&&sc.names.all (λq=>q.2 !=.cell)&&decide ((sc.names.map (·.1)).Nodup)&&Fd sc.names[k]?&&sc.names.all (λq=>q.2 !=.free||ns.lookup q.1==some .cell)&&sc.names.map (·.1) !=gT 0&&sc.names.map (·.1) !=gT 900000
noncomputable def rD(ns:NS)(sc:Scope)(pos:Pos):Bool:=ns.map (·.1)==gT (pos.line*1000+pos.col)&&decide (pos.col<1000)&&decide (sc.names.length<10)&&sc.kind==.function&&!sc.isGenerator&&!sc.isCoroutine&&(sc.names.dropWhile λq=>q.2==.free).all (λq=>q.2==.globalImplicit)&&decide ((sc.names.map (·.1)).Nodup)&&sc.names.all (λq=>q.2 !=.free||ns.lookup q.1==some .cell)
noncomputable def Q9:Const->T
 | .none=>.con .none
 | .bool b=>.con (.bool b)
 | .int i=>.con (.int i 0)
 | .str s=>.con (.str s 0)
 | _=>.bad
noncomputable def HN(op:BoolOp)(ts:List T):T:=match op with
 | .And=>(match ts with
  | [a,b]=>.and a b
  | [a,b,c]=>.and a (.and b c)
  | _=>.bad)
 | .Or=>(match ts with
  | [a,b]=>.or a b
  | [a,b,c]=>.or a (.or b c)
  | _=>.bad)
noncomputable def Ra(op:UnaryOp)(a:T):T:=match op with
 | .Not=>.not a
 | _=>.bad
noncomputable def yJ(g:Expr->T)(a:T)(ops:List CmpOp)(bs:List Expr):T:=match ops with
 | [op]=>(match bs with
  | [b]=>(match DL op with
   | some p=>if isSet b then .bad else .prim p (.cons a (.cons (g b) .nil))
   | none=>.bad)
  | _=>.bad)
 | _=>.bad
noncomputable def Nj(g:Expr->T)(ks:List (Op Expr))(vs:List Expr):T:=match ks with
 | []=>(match vs with
  | []=>.prim .iM .nil
  | _=>.bad)
 | k::ks=>(jN (k::ks)).elim .bad λks'=>if ks'.length==vs.length&&(k::ks).length==vs.length then .AJ ks' (fY g vs) else .bad
noncomputable def HP(ns:NS)(g:Expr->T)(x:Str)(as:List Expr):T:=if as.any isStar then .bad else match dQ K ns x with
 | .con v=>(match qh v as with
  | some o=>if yX "list" (dQ K ns "list") then .prim .iV (.cons (g o) .nil) else .bad
  | none=>Nb K v (as.map g))
 | .loc i=>.Ay (.loc i) (fY g as)
 | _=>.bad
noncomputable def Cs:T->Op Ad
 | .con v=>(match v with
  | .ref a=>some a
  | _=>none)
 | _=>none
noncomputable def yT(C:Ad):Op Ad:=if C=765 then some 762 else bO C 99
noncomputable def HO(g:Expr->T)(o:Expr)(x:Str)(apos pos:Pos)(as:List Expr):T:=if as.length<20&&apos.endLine==pos.line&&!fJ o&&!as.any isStar then
  (if x==("__init__":Str) then(match Cs (g o) with
   | some C=>(yT C).elim .bad λf=>.call f (fY g as)
   | none=>if yX "ValueError" (g o)&&as.length==2 then .prim .BO (fY g as) else .bad)
  else match DC x as.length with
   | some p=>.bm p (g o) (fY g as)
   | none=>(gZ.findIdx? (·==x)).elim .bad λm=>.aS (g o) m (fY g as)) else .bad
noncomputable def HQ(ns:NS)(g:Expr->T)(fn:Expr)(as:List Expr)(kws:List Keyword)(pos:Pos):T:=match kws with
 | []=>(match fn with
  | .Name x _=>HP K ns g x as
  | .Attribute o x apos=>HO g o x apos pos as
  | _=>.bad)
 | _::_=>.bad
noncomputable def NJ(g:Expr->T):List Expr->Op T
 | []=>some (.con (.bool true))
 | [t]=>some (g t)
 | _=>none
noncomputable def HR(ns:NS)(g h:Expr->T)(elt:Expr)(gens:List Comprehension)(sc:Scope):T:=(Bh gens).elim .bad λq=>(nameOf q.target).elim .bad λx=>if isSet q.iter||q.is_async !=0 then .bad else(sc.names.findIdx? (λp=>p.1==x)).elim .bad λk=>if A6 ns sc k then(NJ h q.ifs).elim .bad λt=>.lc (sc.names.map (mE ns)) k (g q.iter) (h elt) t else .bad
noncomputable def noArgs(a:Arguments):Bool:=a.posonlyargs.isEmpty&&a.args.isEmpty&&a.vararg.isNone&&a.kwonlyargs.isEmpty&&a.kw_defaults.isEmpty&&a.kwarg.isNone&&a.defaults.isEmpty
theorem FL{a:Arguments}(h:noArgs a=true):a=⟨[],[],none,[],[],none,[]⟩:=by obtain⟨p,as,v,ko,kd,kw,d⟩:=a;unfold noArgs at h;simp only[e9,List.isEmpty_iff,Option.isNone_iff_eq_none] at h;obtain⟨⟨⟨⟨⟨⟨h1,h2⟩,h3⟩,h4⟩,h5⟩,h6⟩,h7⟩:=h;rw[h1,h2,h3,h4,h5,h6,h7]
noncomputable def aC:Nat->NS->Expr->T
 | 0,_,_=>.bad
 | f+1,ns,e=>match e with
  | .Constant k _ _=>Q9 k
  | .Name x _=>dQ K ns x
  | .BoolOp op es _=>HN op (es.map (aC f ns))
  | .UnaryOp op a _=>Ra op (aC f ns a)
  | .IfExp c a b _=>.bF (aC f ns c) (aC f ns a) (aC f ns b)
  | .BinOp a op b _=>(binOp op).elim .bad λp=>.prim p (.cons (aC f ns a) (.cons (aC f ns b) .nil))
  | .Compare a ops bs _=>yJ (aC f ns) (aC f ns a) ops bs
  | .Attribute o x _=>(lX.findIdx? (·==x)).elim .bad λk=>if fJ o then .bad else .attr (aC f ns o) k
  | .Subscript o i _=>(match zJ i with
   | some q=>.prim q.1 (.cons (aC f ns o) (match q.2 with
    | none=>.nil
    | some k=>.cons (aC f ns k) .nil))
   | none=>if isSlice i then .bad else .prim .item (.cons (aC f ns o) (.cons (aC f ns i) .nil)))
  | .Tuple es _ _=>.prim .tup (fY (aC f ns) es)
  | .List es _=>.prim .list (fY (aC f ns) es)
  | .Dict ks vs _=>Nj (aC f ns) ks vs
  | .Call fn as kws pos=>HQ K ns (aC f ns) fn as kws pos
  | .ListComp elt gens sc _=>HR ns (aC f ns) (aC f (iS ns sc.names)) elt gens sc
  | .Lambda a body sc pos=>if noArgs a&&rD ns sc pos then .lam (pos.line*1000+pos.col) ((sc.names.takeWhile λq=>q.2==.free).map λq=>(ns.findIdx? (λp=>p.1==q.1)).getD 0) (aC f sc.names body) else .bad
  | _=>.bad
noncomputable def D8(t:T):Op Nat:=match t with
 | .loc i=>some i
 | _=>none
theorem IW{t:T}{i:Nat}(h:D8 t=some i):t=.loc i:=by
 induction t using T.casesOn<;>first|exact bB h|skip
 rw[kr h]
noncomputable def Pj(q:Op (Str × NameKind)):Bool:=(q.map λp=>p.2==.local||p.2==.cell).getD false
noncomputable def idxOf(ns:NS)(e:Expr):Op Nat:=(nameOf e).bind λx=>(D8 (dQ K ns x)).bind λi=>if Pj ns[i]? then some i else none
noncomputable def yW(e:Expr):Bool:=Nat.beq e.ctorIdx 8||Nat.beq e.ctorIdx 9||Nat.beq e.ctorIdx 10
noncomputable def idxs(ns:NS):List Expr->Op (List Nat)
 | []=>some []
 | e::r=>(idxOf K ns e).bind λi=>(idxs ns r).map (i::·)
noncomputable def mO(e:Expr):Nat:=((nameQ e).map (·.2.line)).getD 0
noncomputable def rS(ns:NS)(es:List Expr)(is:List Nat)(v:Expr):Op Bool:=match Qo v with
 | some vs=>if vs.length==es.length&&!vs.any isStar then
   (if is.any (λi=>D3 ns[i]?) then some false
   else if (es.length==2||es.length==3)&&decide is.Nodup&&is.all (λi=>Fd ns[i]?)&&es.all (λe=>mO e==(es.head?.map mO).getD 0)&&!vs.all (foldedForSure 8)&&!vs.all (constantsAlone 8) then some true else none) else none
 | none=>some false
noncomputable def za(ns:NS)(x:Str)(p:Pos):Expr->Bool
 | .ListComp _ _ sc vp=>ns.lookup x==some .local&&p.line==vp.line&&!(sc.names.any λq=>q.1==x&&(q.2==.local||q.2==.cell))
 | _=>false
noncomputable def isRef(a:Ad):T->Bool
 | .con v=>(match v with
  | .ref x=>x==a
  | _=>false)
 | _=>false
noncomputable def nB(p:T->Bool)(ns:NS)(e:Expr):Op Expr:=(uJ e).bind λc=>(nameOf c.1).bind λg=>(Bh c.2.1).bind λm=>if c.2.2.1.isEmpty&&p (dQ K ns g) then some m else none
noncomputable def EZ(ns:NS)(es:List Expr)(v:Expr):U:=(idxs K ns es).elim .bad λis=>(rS ns es is v).elim .bad λ_=>.iI is (aC K 30 ns v)
noncomputable def pairOf:List Expr->Op (Expr × Expr)
 | [a,b]=>some (a,b)
 | _=>none
noncomputable def NW(e:Expr):Op (Expr × Expr):=(Qo e).bind pairOf
noncomputable def OC(ns:NS)(a b:Expr × Str)(v1 v2:Expr):U:=(lX.findIdx? (·==a.2)).elim .bad λk1=>(lX.findIdx? (·==b.2)).elim .bad λk2=>if [v1,v2].any isStar then .bad else .mR (aC K 30 ns a.1) k1 (aC K 30 ns b.1) k2 (aC K 30 ns v1) (aC K 30 ns v2)
noncomputable def OD(ns:NS)(a b:Expr × Expr)(v1 v2:Expr):U:=if isSlice a.2||isSlice b.2||[v1,v2].any isStar then .bad else .mT (aC K 30 ns a.1) (aC K 30 ns a.2) (aC K 30 ns b.1) (aC K 30 ns b.2) (aC K 30 ns v1) (aC K 30 ns v2)
noncomputable def HS(ns:NS)(e1 e2 v1 v2:Expr):Op U:=((qT e1).bind λa=>(qT e2).map λb=>OC K ns a b v1 v2).or ((itemOf e1).bind λa=>(itemOf e2).map λb=>OD K ns a b v1 v2)
noncomputable def rq(ns:NS)(es:List Expr)(v:Expr):Op U:=(pairOf es).bind λe=>(NW v).bind λq=>HS K ns e.1 e.2 q.1 q.2
noncomputable def yI(ns:NS)(t v:Expr):U:=match t with
 | .Name x p=>(idxOf K ns (.Name x p)).elim .bad λi=>if yW v&&!za ns x p v then .bad else .dR i (aC K 30 ns v)
 | .Attribute o x _=>(lX.findIdx? (·==x)).elim .bad λk=>.bI (aC K 30 ns o) k (aC K 30 ns v)
 | .Subscript o i _=>if isSlice i then .bad else .fG (aC K 30 ns o) (aC K 30 ns i) (aC K 30 ns v)
 | .Tuple es _ _=>(match rq K ns es v with
  | some u=>u
  | none=>EZ K ns es v)
 | _=>.bad
noncomputable def DM(ns:NS)(t:Expr)(op:Operator)(v:Expr):U:=match op with
 | .Add=>(DA t).elim .bad λq=>(lX.findIdx? (·==q.2.1)).elim .bad λk=>.aug (aC K 30 ns q.1) k (aC K 30 ns v)
 | _=>.bad
noncomputable def AG(ns:NS)(i:Nat)(it:Expr)(tb:U):U:=match nB K (yX "range") ns it with
 | some m=>.qp i (aC K 30 ns m) tb
 | none=>if isSet it then .bad else .loop i (aC K 30 ns it) tb
noncomputable def AE(ns:NS)(e1 e2 it:Expr)(tb:U):U:=(idxOf K ns e1).elim .bad λi=>(idxOf K ns e2).elim .bad λj=>(nB K (yX "enumerate") ns it).elim .bad λm=>.sr i j (aC K 30 ns m) tb
noncomputable def DN(ns:NS)(t it:Expr)(tb:U):U:=match t with
 | .Name x p=>(idxOf K ns (.Name x p)).elim .bad λi=>AG K ns i it tb
 | .Tuple es _ _=>(match es with
  | [e1,e2]=>AE K ns e1 e2 it tb
  | _=>.bad)
 | _=>.bad
noncomputable def rt(ns:NS)(e cause:Op Expr):U:=match e with
 | some e=>(match cause with
  | none=>(nB K (isRef 785) ns e).elim .bad λm=>.FZ (aC K 30 ns m)
  | some _=>.bad)
 | none=>.bad
noncomputable def isAdd:Operator->Bool
 | .Add=>true
 | _=>false
noncomputable def M6(e:Expr):Op (Expr × Expr):=(Nc e).bind λq=>if isAdd q.2.1 then some (q.1,q.2.2) else none
noncomputable def yN(e:Expr):Op (Str × Str × Str × Str × Str):=(M6 e).bind λq=>(strOf q.1).bind λs=>(qT q.2).bind λc=>(qT c.1).bind λb=>(qT b.1).bind λa=>(nameOf a.1).map λx=>(s,x,a.2,b.2,c.2)
noncomputable def NZ(s:Stmt):Op Expr:=(Su s).bind id
noncomputable def ND:ExceptHandler->Op (Expr × Str × List Stmt)
 | .ExceptHandler ty nm b _=>ty.bind λt=>nm.map λx=>(t,x,b)
noncomputable def N3(body:List Stmt)(hs:List ExceptHandler):Op (Expr × Expr × Str × Str × Str × Str × Str × Str):=(Bh body).bind λs=>(Ij s).bind λa=>(Bh hs).bind λh=>(ND h).bind λq=>(Bh q.2.2).bind λr=>(NZ r).bind λe=>(yN e).map λz=>(a,q.1,q.2.1,z)
noncomputable def yK(ns:NS)(body:List Stmt)(hs:List ExceptHandler):U:=(N3 body hs).elim .bad λq=>if q.2.2.1==q.2.2.2.2.1&&isRef 785 (aC K 30 ns q.2.1)&&(nameOf q.2.1).isSome&&!yW q.1 then(idxOf K ns (.Name q.2.2.1 ⟨0,0,0,0⟩)).elim .bad λi=>if Fd ns[i]? then(lX.findIdx? (·==q.2.2.2.2.2.1)).elim .bad λk1=>(lX.findIdx? (·==q.2.2.2.2.2.2.1)).elim .bad λk2=>(lX.findIdx? (·==q.2.2.2.2.2.2.2)).elim .bad λk3=>.Dc (aC K 30 ns q.1) i q.2.2.2.1 k1 k2 k3 else .bad else .bad
noncomputable def jK:Nat->NS->List Stmt->U
 | 0,_,_=>.bad
 | f+1,ns,body=>match body with
  | []=>.skip
  | s::r=>.seq (match s with
   | .Expr e _=>if yW e then .bad else .expr (aC K 30 ns e)
   | .Assign ts v _=>(Bh ts).elim .bad λt=>yI K ns t v
   | .AugAssign t op v _=>DM K ns t op v
   | .If c a b _=>.bF (aC K 30 ns c) (jK f ns a) (jK f ns b)
   | .Return e _=>(match e with
    | some e=>.ret (aC K 30 ns e)
    | none=>.ret (.con .none))
   | .For t it body els _=>(match els with
    | []=>DN K ns t it (jK f ns body)
    | _::_=>.bad)
   | .While c body els _=>(match els with
    | []=>.s9 (aC K 30 ns c) (jK f ns body)
    | _::_=>.bad)
   | .Try body hs els fin _=>(match els with
    | []=>(match fin with
     | []=>yK K ns body hs
     | _::_=>.bad)
    | _::_=>.bad)
   | _=>.bad) (jK f ns r)
end
noncomputable def yY:List Nat:=[3,40,39,62,61,82,81,120,119,140,139,161,160,181,180,201]++[200,228,227,256,255,486,485,765,764,785,784,1055,1054,21,20,37]++[36,59,58,52,79,78,72,98,97,105,104,112,111,117,116,137]++[136,130,158,157,151,178,177,171,198,197,191,218,217,211,225,224]++[245,244,238,253,252,246,267,266,274,273,281,280,287,286,282,294]++[293,301,300,308,307,315,314,322,321,327,326,334,333,341,340,348]++[347,353,352,360,359,368,367,361,375,374,382,381,389,388,396,395]++[403,402,408,407,415,414,422,421,429,428,436,435,443,442,450,449]++[457,456,462,461,467,466,474,473,495,494,502,501,509,508,516,515]++[523,522,530,529,537,536,544,543,551,550,558,557,565,564,572,571]++[579,578,586,585,593,592,600,599,607,606,614,613,621,620,628,627]++[635,634,642,641,649,648,656,655,663,662,670,669,677,676,684,683]++[691,690,698,697,705,704,712,711,719,718,726,725,733,732,740,739]++[747,746,762,761,755,782,781,815,814,808,822,821,829,828,836,835]++[843,842,850,849,857,856,862,861,869,868,877,876,870,884,883,891]++[890,898,897,905,904,912,911,919,918,926,925,933,932,940,939,947]++[946,954,953,961,960,968,967,975,974,982,981,989,988,996,995,1003]++[1002,1010,1009,1017,1016,1024,1023,1031,1030,1038,1037,1045,1044,1052,1051,1066]++[1065,1073,1072,1080,1079,1087,1086,1094,1093,1099,1098,1106,1105,1113,1112,1120]++[1119,1127,1126,1134,1133,1141,1140,1148,1147,1155,1154,1162,1161,1167,1166,1174]++[1173,2,788,789,792,800]
noncomputable def Kf(P:Params):Frag:=yY.map λa=>(a,((HA.B0 P).get a).getD default)
noncomputable def fnAt(P:Params)(f:Ad):FuncData:=(To (Kf P) f).getD default
noncomputable def TU:FuncBody->Op (List Stmt)
 | .stmts b=>some b
 | _=>none
theorem KV{d:FuncBody}{b:List Stmt}(h:TU d=some b):d=.stmts b:=by cases d<;>first|exact bB h|exact aj _ (kr h)
noncomputable def jW(P:Params)(f:Ad):List Stmt:=(TU (fnAt P f).body).getD []
structure Ah(fd:FuncData)(cs:List (Ad × Va)):Prop where
 par:fd.params=⟨[],[],none,[],[],none,[]⟩
 VO:fd.defaults=.none
 kwd:fd.kwdefaults=.none
 qN:fd.globals=mainGlobals
 KA:fd.builtins=builtinsNs
 knd:fd.scope.kind=.function
 gen:fd.scope.isGenerator=false
 co:fd.scope.isCoroutine=false
 nd:(fd.scope.names.map (·.1)).Nodup
 kinds:∀ q∈fd.scope.names,q.2=.free\/q.2=.globalImplicit
 cap:∀(i:Nat) (q:Ad × Va),cs[i]?=some q->∃ x,fd.scope.names[i]?=some (x,.free)/\fd.closure.lookup x=some q.1
 T7:∀ x a,fd.closure.lookup x=some a->∃ q∈cs,q.1=a
 inj:∀ x y a,fd.closure.lookup x=some a->fd.closure.lookup y=some a->x=y
 Ur:∀ k,fd.scope.names.map (·.1)≠gT k
def M1(K:Frag)(k:Nat)(o:Obj)(cs:List (Ad × Va))(vs:List Va):Prop:=∃ (fd:FuncData) (c':Ad) (body:Expr) (f:Nat),o.data=.func fd/\vs=.ref c'::cs.map (λq=>ab q.2)/\fd.code=.ref c'/\fd.qualname=gH k/\fd.body=.expr body/\aC K f fd.scope.names body=y9 k/\Ah fd cs
noncomputable def vg:Arguments × List Stmt × Scope:=match pw.main.body.drop 121 with
 | .FunctionDef _ a b _ _ _ s _ _ _::_=>(a,b,s)
 | _=>(⟨[],[],none,[],[],none,[]⟩,[],default)
noncomputable def Pd:Pos:=match pw.main.body.drop 121 with
 | .FunctionDef _ _ _ _ _ _ _ _ _ p::_=>p
 | _=>default
noncomputable def Pc:DefRec:=⟨"law",vg.1,vg.2.1,vg.2.2,Pd⟩
def YP(w:World)(h:Heap):Prop:=∀ b o,(H1 w.params).get? b=some o->h.get? b=some o
noncomputable abbrev qo:RowW:=PySem.Challenge.rw_nz0059_01.row.toRowW
def UO(w:World)(sc:Ad)(ns:List Int):Prop:=∃ (sO aF:Sh) (mg mb:Str->Op Va) (args:List WData),Ground qv jY qo.records (XL qv []) w sO mg mb aF.heap/\YP w aF.heap/\aF.gens=#[]/\qo.claim.pre args=true/\ns.length<64/\(∃ (vs:List Va) (n:Nat),aF.heap.get? sc=some (listOf vs.toArray n)/\vs.map ab=ns.map λi=>.int i 0)/\¬ wpAny (model pw w) callerA (PySem.call (.ref 1174) [.ref sc]) (λv s'=>GoodWG qo.claim (classAt sO.heap) (ExcName.means sO.heap) args aF (.ok (.ret v)) s') (λe s'=>GoodWG qo.claim (classAt sO.heap) (ExcName.means sO.heap) args aF (.error e) s') aF
noncomputable def Ol:World × Ad × List Int:=@Classical.epsilon _ ⟨⟨λq q=>0,{ strHash:=λq=>0,shareClass:=λq=>0,mergeTok:=id,idOf:=λq=>0,idOfShared:=λq q=>0,followText:=λq=>false,idOfImm:=λq=>0 }⟩,0,[]⟩ λx=>UO x.1 x.2.1 x.2.2
noncomputable def wd:World:=Ol.1
noncomputable def wj:Ad:=Ol.2.1
noncomputable def Jq:List Int:=Ol.2.2
noncomputable def K:Frag:=Kf wd.params
def IP:Nat->Obj->List (Ad × Va)->List Va->Prop:=M1 K
end
abbrev LL:OpenLaw:=PySem.Challenge.rw_nz0059_01
theorem Wl:(sreFenced pw.main&&((moduleNames pw.main.body).isEmpty||lookedIntoSs (moduleNames pw.main.body) pw.main.body))=true:=by kernel_rfl
theorem Wm:namesResolve pw=true:=by kernel_rfl
theorem Wn:pw.boundNames.all (λn=>!worldNames.contains n)=true:=by kernel_rfl
theorem Wr:(!(importedModules pw.main.body).all cThrough.contains)=false:=by kernel_rfl
theorem Wu:readsOut pw pw.main.body "vars"=false:=by kernel_rfl
theorem Wv:readsOut pw pw.main.body "dir"=false:=by kernel_rfl
theorem Ww:readsOut pw pw.main.body "locals"=false:=by kernel_rfl
theorem Ws:(["vars","dir","locals"]:List Str).filter (readsOut pw pw.main.body)=[]:=by rw[List.filter_cons,Wu,List.filter_cons,Wv,List.filter_cons,Ww];rfl
theorem Wt:noRoadLSs { strict:=false,foot:=none,bare:=[] } pw.main.body=true:=by kernel_rfl
theorem Wo:noRoadLSs { strict:=!(importedModules pw.main.body).all cThrough.contains,foot:=none,bare:=(["vars","dir","locals"]:List Str).filter (readsOut pw pw.main.body) } pw.main.body=true:=by rw[Wr,Ws];exact Wt
theorem Wq:(namesMeet pw pw.main.body λ_ n=>attrL n)=true:=by kernel_rfl
theorem QB:looksOpen pw=true:=by unfold looksOpen;rw[Wl,Wm,Wn,Wo,Wq];rfl
theorem wB:(decide (LL.foot<=(behindTheImports LL.prog).length)&&LL.footing.all footLine&&noClassBlock LL.prog LL.footing)=true:=by kernel_rfl
theorem wC:noRoadLSs { strict:=true,foot:=some LL.bound',writes:=LL.writes,may:=LL.may } LL.footing=true:=by kernel_rfl
theorem wD:(defStands LL.about LL.above&&LL.namesIt)=true:=by kernel_rfl
theorem wE:((["type","isinstance","issubclass","getattr","hasattr"]:List Str).all (λn=>LL.about !=[n])&&LL.bound'.all (λn=>!builtinNamed n||LL.about==[n]||!LL.reads n))=true:=by kernel_rfl
theorem wF:namesMeet LL.prog LL.footing (λsc n=>(!(["type","isinstance","issubclass","getattr","hasattr"]:List Str).contains n||sc.names.lookup n==some .globalImplicit)&&
  (LL.may !=some n||sc.kind==.module||sc.names.lookup n==some .globalImplicit))=true:=by kernel_rfl
theorem wG:(LL.own.contains LL.name&&LL.own.eraseDups.length==LL.own.length&&LL.own.all (λn=>!builtinNamed n))=true:=by kernel_rfl
theorem wH:(namesMeet LL.prog LL.above (λ_ n=>!LL.own.contains n)&&namesMeet LL.prog LL.footing λsc n=>sc.kind==.module||sc.names.lookup n !=some .globalExplicit)=true:=by kernel_rfl
theorem wP:LL.row.wellSaid=true:=by
 unfold OpenRow.wellSaid OpenRow.partSaid;rw[show looksOpen LL.row.prog=true from QB]
 kernel_rfl
theorem well:LL.wellSaid=true:=by
 unfold OpenLaw.wellSaid;have hB:=wB;have hD:=wD;have hE:=wE;have hG:=wG;have hH:=wH;simp only[e9] at hB hD hE hG hH;rw[wP,hB.1.1,hB.1.2,hB.2,wC,hD.1,hD.2,hE.1,hE.2,wF,hG.1.1,hG.1.2,hG.2,hH.1,hH.2]
 kernel_rfl
theorem Qp{sc:Scope}{cx:TablesWhole.Ctx}(l r:List Stmt)(h:TablesWhole.wSs TablesWhole.holds sc cx sc l=true)(k:TablesWhole.wSs TablesWhole.holds sc cx sc r=true):TablesWhole.wSs TablesWhole.holds sc cx sc (l++r)=true:=by
 induction l with
 | nil=>exact k
 | cons s l ih=>have h:=dm h;exact Bool.and_eq_true_iff.mpr ⟨h.1,ih h.2⟩
theorem MT{p:Program}(h1:p.modules=[])(h2:p.parses=[])(h3:p.harvested=[])(a:TablesWhole.wSs TablesWhole.gather p.main.scope ⟨p.main.scope,[],[],[],none⟩ p.main.scope p.main.body=[])(b:TablesWhole.noTwice p.main.scope=true)(c:TablesWhole.wSs TablesWhole.holds p.main.scope ⟨p.main.scope,[],[],[],none⟩ p.main.scope p.main.body=true):p.tablesWhole=true:=by unfold Program.tablesWhole TablesWhole.wProgram TablesWhole.wModule;rw[h1,h2,h3,a];show((true&&(TablesWhole.noTwice p.main.scope&&(TablesWhole.wSs TablesWhole.holds p.main.scope ⟨p.main.scope,[],[],[],none⟩ p.main.scope p.main.body&&true)))&&true)=true;rw[b,c];rfl
noncomputable abbrev NO:Scope:=pw.main.scope
noncomputable abbrev Uq:TablesWhole.Ctx:=⟨NO,[],[],[],none⟩
theorem Wf:TablesWhole.wSs TablesWhole.gather NO Uq NO pw.main.body=[]:=by kernel_rfl
theorem Wg:TablesWhole.noTwice NO=true:=by kernel_rfl
theorem Wh:TablesWhole.wSs TablesWhole.holds NO Uq NO (pw.main.body.take 60)=true:=by kernel_rfl
theorem Wi:TablesWhole.wSs TablesWhole.holds NO Uq NO (pw.main.body.drop 60)=true:=by kernel_rfl
theorem Wj:pw.tablesWhole=true:=MT rfl rfl rfl Wf Wg (List.take_append_drop 60 pw.main.body▸Qp _ _ Wh Wi)
theorem head(call:WalkO qv jY (XL qv []) YP PySem.Challenge.rw_nz0059_01.row.toRowW Pc [] (λf vs=>PySem.call f vs)):PySem.Challenge.rw_nz0059_01.Holds:=by
 refine holds_law well λsaid=>?_;refine PySem.W.holds_open (q:=qv) (loose:=jY) (Xt:=λs=>xlAt qv [] s&&recOk [] s) (XP:=XL qv []) (Yf:=λs=>s.heap) (Ya:=λw=>H1 w.params) (YP:=YP) (d:=Pc) (kwd:=[]) (N:=9000)
  left (λw s e b o h=>e▸h) (λw h h' y k b o e=>k _ _ (y _ _ e)) (λs e=>xl_of s (dm e).1) XL.keeps (by kernel_rfl) (by kernel_rfl) (by kernel_rfl) (λs e=>recFacts_of (dm e).2) (by rfl) said ⋯ ⟨rfl,rfl,rfl,rfl,rfl,Wj⟩ ?hw call
 case hw=>w_witness2
section
inductive PO where
 | inst (C:Ad) (fs:List (Nat × Va))
 | dict (t:Nat × Nat) (kvs:List (Str × Va))
 | list (t:Nat × Nat) (vs:List Va)
 | tup (vs:List Va)
 | lam (n:Nat) (vs:List Va)
 | exc (C:Ad) (fs:List (Nat × Va))
 | tab (es:List (Nat × Ad))
 | code (k:Nat)
 | raw (C:Ad)
 | kF (C:Ad) (fs:List (Nat × Va))
abbrev PH:=Ad->Op PO
abbrev NP:=Lv→PH→Prop
noncomputable def upd(P:PH)(a:Ad)(o:PO):PH:=λb=>if b=a then some o else P b
theorem aA(P:PH)(a:Ad)(o:PO):upd P a o a=some o:=by simp [upd]
theorem aD{P:PH}{a b:Ad}{o:PO}(h:b≠a):upd P a o b=P b:=by simp [upd,h]
theorem MY(P:PH)(a:Ad)(o o':PO):upd (upd P a o) a o'=upd P a o':=by funext b;unfold upd;split<;>rfl
theorem aI{P:PH}{a b:Ad}{x o:PO}(h:P b=some x)(hn:P a=none):upd P a o b=some x:=by rw[aD,h];rintro rfl;rw[h] at hn;cases hn
inductive gQ:List DictEntry->List (Nat × Va)->Prop
 | nil:gQ [] []
 | cons {e es x v fs} (tk:Tok):x<58->e.key=.str (nm x) tk->ab e.val=v->gQ es fs->gQ (e::es) ((x,v)::fs)
noncomputable def eN(x:Nat)(v:Va):List (Nat × Va)->List (Nat × Va)
 | []=>[(x,v)]
 | f::fs=>if f.1=x then(f.1,v)::fs else f::eN x v fs
noncomputable def eH(x:Nat):List (Nat × Va)->Op Va
 | []=>none
 | f::fs=>if f.1=x then some f.2 else eH x fs
theorem JK{x:Nat}{v:Va}{f:Nat × Va}{fs:List (Nat × Va)}:eN x v (f::fs)=if f.1=x then(f.1,v)::fs else f::eN x v fs:=rfl
theorem ON{x:Nat}{f:Nat × Va}{fs:List (Nat × Va)}:eH x (f::fs)=if f.1=x then some f.2 else eH x fs:=rfl
theorem gQ.noRef{es fs}(h:gQ es fs):es.any (·.refKey)=false:=by
 induction h with
 | nil=>rfl
 | @cons e es x v fs tk hx hk hv _ ih=>rw[jo,ih];simp [DictEntry.refKey,hk]
theorem kH(x y:Str)(t:Tok):(Value.str x t).isStr y=decide (x=y):=by
 rw[Value.isStr];by_cases h:x=y
 ·subst h;simp
 ·simp [h]
theorem gQ.get{es fs}(h:gQ es fs){x:Nat}(lx:x<58):∃ r,getL (nm x) es=some r/\r.map ab=eH x fs:=by
 have hn:=h.noRef;unfold getL;rw[hn];induction h with
 | nil=>exact⟨none,rfl,rfl⟩
 | @cons e es y v fs tk ly hk hv h' ih=>
  rw[List.find?_cons,ON];by_cases hx:y=x
  ·subst hx
   have:e.key.isStr (nm y)=true:=by rw[hk,kH];simp
   simp only[this,if_true];exact⟨_,rfl,by simp [hv]⟩
  ·have:e.key.isStr (nm x)=false:=by rw[hk,kH];exact av λq=>hx (Jl ly lx q)
   simp only[this,hx,if_false];exact ih h'.noRef
theorem gQ.put{es fs}(h:gQ es fs){x:Nat}(lx:x<58)(hs:Int)(t:Tok)(v:Va):gQ (putL (nm x) hs (.str (nm x) t) v es) (eN x (ab v) fs):=by
 induction h with
 | nil=>exact .cons t lx rfl rfl .nil
 | @cons e es y u fs tk ly hk hv h' ih=>
  rw[putL,JK];by_cases hx:y=x
  ·subst hx
   have:e.key.isStr (nm y)=true:=by rw[hk,kH];simp
   simp only[this,if_true];exact .cons tk ly hk rfl h'
  ·have:e.key.isStr (nm x)=false:=by rw[hk,kH];exact av λq=>hx (Jl ly lx q)
   simp only[this,hx,if_false];exact .cons tk ly hk hv ih
theorem gQ.len{es fs}(h:gQ es fs):es.length=fs.length:=by
 induction h with
 | nil=>rfl
 | cons _ _ _ _ _ ih=>simp [ih]
theorem JL(x:Nat)(v:Va):∀ fs:List (Nat × Va),(eN x v fs).length<=fs.length+1:=by
 intro rr;induction rr with
 | nil=>exact f7 _
 | cons f fs ih=>have:=ih;rw[JK];split<;>simp<;>lia
noncomputable abbrev BA(its:Array Va)(n:Nat):Obj:={ cls:=.type "tuple",data:=.seq its n }
noncomputable def kP(kv:Str × Va):Str × Va:=(kv.1,ab kv.2)
noncomputable def cJ(F:HF)(a:Ad)(p:Obj->Prop):HF:=λb=>if b=a then some p else F b
theorem aJ(F:HF)(a:Ad)(p:Obj->Prop):cJ F a p a=some p:=by simp [cJ]
theorem aE{F:HF}{a b:Ad}{p:Obj->Prop}(h:b≠a):cJ F a p b=F b:=by simp [cJ,h]
noncomputable def fK(t:Ad):Data:=.fields #[.ref t,.none,.none,.none,.bool false,.none]
inductive EI(f:Array Va->Nat->Obj)(h:Heap)(a:Ad)(vs:List Va):Prop
 | mk (vs':List Va) (n:Nat) (e:h.get? a=some (f vs'.toArray n)) (m:vs'.map ab=vs)
inductive G5(h:Heap)(a:Ad)(kvs:List (Str × Va)):Prop
 | mk (o:Obj) (kvs':List (Str × Va)) (e:h.get? a=some o) (d:o.IsDictOf (strKind pw wd) kvs') (m:kvs'.map kP=kvs)
inductive QN(h:Heap)(d a C:Ad)(fs:List (Nat × Va)):Prop
 | mk (e:h.get? a=some (instObj C d)) (es:List DictEntry) (n:Nat) (g:h.get? d=some (dictOf es n)) (r:gQ es fs)
noncomputable def cZ(h:Heap)(F:HF)(d a:Ad):PO->Prop
 | .inst C fs=>QN h d a C fs
 | .dict t kvs=>G5 h a kvs/\(t.2=1->∃ o es,h.get? a=some o/\o.data=.dict es t.1)
 | .list _ vs=>EI listOf h a vs
 | .tup vs=>EI BA h a vs
 | .lam i vs=>∃ o cs,h.get? a=some o/\IP i o cs vs/\∀ q∈cs,∃ p,F q.1=some p/\p=λoc:Obj=>oc.data=.cell (some q.2)
 | .exc C fs=>∃ vs sl,h.get? a=some (⟨.ref C,some d,.fields vs,sl⟩:Obj)/\∃ es n,h.get? d=some (dictOf es n)/\gQ es fs
 | .tab es=>h.get? a=some (tabObj (zy es).toArray)
 | .code k=>∃ o vs t,h.get? a=some o/\o.data=.fields vs/\vs[1]?=some (.str (gH k) t)
 | .raw C=>∃ t,h.get? a=some (⟨.ref C,none,fK t,#[]⟩:Obj)
 | .kF C fs=>∃ t,h.get? a=some (⟨.ref C,some d,fK t,#[]⟩:Obj)/\∃ es n,h.get? d=some (dictOf es n)/\gQ es fs
noncomputable def PO.fB:PO->Bool
 | .inst ..|.exc ..|.kF ..=>true
 | _=>false
noncomputable def PO.bR:PO->Bool
 | .lam ..=>true
 | _=>false
inductive Hid(base h:Heap)(a:Ad)(p:Obj->Prop):Prop
 | mk (b:base.get? a=none) (o:Obj) (e:h.get? a=some o) (q:p o)
theorem Hid.b{base h:Heap}{a:Ad}{p:Obj->Prop}:Hid base h a p->base.get? a=none
 | ⟨b,_,_,_⟩=>b
theorem Hid.ex{base h:Heap}{a:Ad}{p:Obj->Prop}:Hid base h a p->∃ o,h.get? a=some o/\p o
 | ⟨_,o,e,q⟩=>⟨o,e,q⟩
theorem Hid.of{base h:Heap}{a:Ad}{p:Obj->Prop}(b:base.get? a=none):(∃ o,h.get? a=some o/\p o)->Hid base h a p
 | ⟨o,e,q⟩=>⟨b,o,e,q⟩
structure Sat(base h:Heap)(F:HF)(P:PH)(D:Ad->Ad):Prop where
 stay:base.StaysIn h
 hid:∀ a p,F a=some p->Hid base h a p
 rel:∀ a o,P a=some o->base.get? a=none/\cZ h F (D a) a o
 dle:∀ a o,P a=some o->o.fB=true->base.get? (D a)=none
 dn:∀ a o,P a=some o->o.fB=true->P (D a)=none
 di:∀ a o b o',P a=some o->o.fB=true->P b=some o'->o'.fB=true->D a=D b->a=b
 fp:∀ a p,F a=some p->P a=none
 fd:∀ b p,F b=some p->∀ a o,P a=some o->o.fB=true->D a≠b
abbrev gU(h h':Heap):Prop:=∀ b o,h.get? b=some o->h'.get? b=some o
section
variable{base h h':Heap}{F F':HF}{P:PH}{D:Ad->Ad}
theorem cZ.self{d a:Ad}{o:PO}(r:cZ h F d a o):∃ ob,h.get? a=some ob:=by
 cases o with
 | inst C fs=>obtain⟨r,_⟩:=r;exact⟨_,r⟩
 | dict t kvs=>obtain⟨⟨o,_,r,_⟩,_⟩:=r;exact⟨o,r⟩
 | list t vs=>obtain⟨_,_,r,_⟩:=r;exact⟨_,r⟩
 | tup vs=>obtain⟨_,_,r,_⟩:=r;exact⟨_,r⟩
 | lam i vs=>obtain⟨o,_,r,_⟩:=r;exact⟨o,r⟩
 | exc C fs=>obtain⟨_,_,r,_⟩:=r;exact⟨_,r⟩
 | tab es=>exact⟨_,r⟩
 | code k=>obtain⟨o,_,_,r,_⟩:=r;exact⟨o,r⟩
 | raw C=>obtain⟨_,r⟩:=r;exact⟨_,r⟩
 | kF C fs=>obtain⟨_,r,_⟩:=r;exact⟨_,r⟩
theorem cZ.N2{d a:Ad}{o:PO}(r:cZ h F d a o)(hd:o.fB=true):∃ ob,h.get? d=some ob:=by
 cases o<;>first|cases hd|skip
 ·obtain⟨_,es,n,r,_⟩:=r;exact⟨_,r⟩
 ·obtain⟨_,_,_,es,n,r,_⟩:=r;exact⟨_,r⟩
 ·obtain⟨_,_,es,n,r,_⟩:=r;exact⟨_,r⟩
theorem cZ.two{d a:Ad}{o:PO}(r:cZ h F d a o)(ka:∀ x,h.get? a=some x->h'.get? a=some x)(kd:∀ x,o.fB=true->h.get? d=some x->h'.get? d=some x):cZ h' F d a o:=by
 cases o with
 | inst C fs=>obtain⟨h1,es,n,h2,h3⟩:=r;exact⟨ka _ h1,es,n,kd _ rfl h2,h3⟩
 | dict t kvs=>obtain⟨⟨o,kvs',h1,h2,hm⟩,h3⟩:=r;exact⟨⟨o,kvs',ka _ h1,h2,hm⟩,λq=>let ⟨o,es,x,y⟩:=h3 q;⟨o,es,ka _ x,y⟩⟩
 | list t vs=>obtain⟨vs',n,h1,h2⟩:=r;exact⟨vs',n,ka _ h1,h2⟩
 | tup vs=>obtain⟨vs',n,h1,h2⟩:=r;exact⟨vs',n,ka _ h1,h2⟩
 | lam i vs=>obtain⟨o,cs,h1,h2⟩:=r;exact⟨o,cs,ka _ h1,h2⟩
 | exc C fs=>obtain⟨vs,sl,h1,es,n,h2,h3⟩:=r;exact⟨vs,sl,ka _ h1,es,n,kd _ rfl h2,h3⟩
 | tab es=>exact ka _ r
 | code k=>obtain⟨o,vs,t,h1,h2⟩:=r;exact⟨o,vs,t,ka _ h1,h2⟩
 | raw C=>obtain⟨vs,h1⟩:=r;exact⟨vs,ka _ h1⟩
 | kF C fs=>obtain⟨t,h1,es,n,h2,h3⟩:=r;exact⟨t,ka _ h1,es,n,kd _ rfl h2,h3⟩
theorem cZ.Ug{d a:Ad}{o:PO}(r:cZ h F d a o)(k:∀ b p,F b=some p->F' b=some p):cZ h F' d a o:=by
 cases o with
 | lam i vs=>obtain⟨o,cs,h1,h2,h3⟩:=r;exact⟨o,cs,h1,h2,λq hq=>let ⟨p,e,hp⟩:=h3 q hq;⟨p,k _ _ e,hp⟩⟩
 | _=>exact r
theorem cZ.OT{d a:Ad}{o:PO}(r:cZ h F d a o)(k:o.bR=true->∀(b:Ad) (p:Obj->Prop) (v:Va),F b=some p->p=(λoc:Obj=>oc.data=.cell (some v))->F' b=some p):cZ h F' d a o:=by
 cases o with
 | lam i vs=>obtain⟨o,cs,h1,h2,h3⟩:=r;exact⟨o,cs,h1,h2,λq hq=>let ⟨p,e,hp⟩:=h3 q hq;⟨p,k rfl _ _ _ e hp,hp⟩⟩
 | _=>exact r
structure Mv(base:Heap)(F:HF)(x:Ad->Prop)(h h':Heap):Prop where
 stay:base.StaysIn h'
 hid:∀ b p o,F b=some p->¬ x b->h.get? b=some o->p o->∃ o',h'.get? b=some o'/\p o'
 keep:∀ b o,¬ x b->F b=none->base.get? b=none->h.get? b=some o->h'.get? b=some o
theorem Mv.of_keep{x:Ad->Prop}(stay:base.StaysIn h)(k:gU h h'):Mv base F x h h':=⟨λb o e=>k _ _ (stay b o e),λb p o q q e po=>⟨o,k _ _ e,po⟩,λb o q q q e=>k _ _ e⟩
theorem Mv.iA{a:Ad}(stay:base.StaysIn h)(k:∀ b o,b≠a->h.get? b=some o->h'.get? b=some o)(ha:base.get? a=none):Mv base F (·=a) h h':=⟨λb o e=>k _ _ (λq=>by rw[q,ha] at e;cases e) (stay b o e),λb p o j hx e po=>⟨o,k _ _ hx e,po⟩,λb o hx j j e=>k _ _ hx e⟩
def Th:Ad->Prop:=λq=>False
variable(S:Sat base h F P D)
include S
theorem Sat.fn{a:Ad}{o:PO}(e:P a=some o):F a=none:=by
 cases q:F a with
 | none=>rfl
 | some p=>exact bB ((S.fp a p q).symm.trans e)
theorem Sat.VP{a:Ad}{o:PO}(e:P a=some o)(hd:o.fB=true):F (D a)=none:=by
 cases q:F (D a) with
 | none=>rfl
 | some p=>exact absurd rfl (S.fd _ p q a o e hd)
theorem Sat.fa{a:Ad}{o:PO}(e:P a=some o)(q:Ad)(p:Obj->Prop)(hq:F q=some p):q≠a:=λz=>bB ((S.fp q p hq).symm.trans (z▸e))
theorem Sat.Nl{a b:Ad}{o x:PO}(e:P a=some o)(hb:P b=some x)(hx:x.fB=true):D b≠a:=λz=>bB ((S.dn b x hb hx).symm.trans (z▸e))
theorem Sat.DU{x:Ad->Prop}(k:Mv base F x h h')(nx:∀ b p,F b=some p->¬ x b)(b:Ad)(p:Obj->Prop)(hq:F b=some p):Hid base h' b p:=let ⟨y,o,z,w⟩:=S.hid b p hq;.of y (k.hid b p o hq (nx b p hq) z w)
theorem Sat.yf{x:Ad->Prop}(k:Mv base F x h h'){b:Ad}{o:PO}(nb:¬ x b)(nd:o.fB=true->¬ x (D b))(hb:P b=some o):cZ h' F (D b) b o:=(S.rel b o hb).2.two (λj q=>k.keep _ _ nb (S.fn hb) (S.rel b o hb).1 q) λj hx q=>k.keep _ _ (nd hx) (S.VP hb hx) (S.dle b o hb hx) q
theorem Sat.keep(T:Mv base F Th h h'):Sat base h' F P D:=⟨T.stay,S.DU T λq q q=>id,λa o e=>⟨(S.rel a o e).1,S.yf T id (λq=>id) e⟩,S.dle,S.dn,S.di,S.fp,S.fd⟩
theorem Sat.nK{a b:Ad}{p:Obj->Prop}{v:Va}(e:F b=some p)(hp:p=λoc:Obj=>oc.data=.cell (some v))(hl:∀ oc,h.get? a=some oc->∀ v,oc.data≠.cell (some v)):b≠a:=λz=>let ⟨_,oc,eo,po⟩:=S.hid b p e;hl oc (z▸eo) v (by rw[hp] at po;exact po)
theorem Sat.gen{a d:Ad}{o':PO}{D':Ad->Ad}(ea:D' a=d)(stay:base.StaysIn h')(hid:∀ b p,F b=some p->Hid base h' b p)(rel:∀ b x,b≠a->P b=some x->cZ h' F (D b) b x)
  (hD:∀ b,b≠a->D' b=D b) (ba:base.get? a=none) (r:cZ h' F d a o') (fa:∀ q p,F q=some p->q≠a) (Nl:∀ b x,P b=some x->x.fB=true->D b≠a)
  (hd:o'.fB=true->base.get? d=none/\d≠a/\P d=none/\(∀ b x,b≠a->P b=some x->x.fB=true->D b≠d)/\∀ q p,F q=some p->d≠q):Sat base h' F (upd P a o') D':=by
 have at_:∀{b x},upd P a o' b=some x->(b=a/\x=o')\/(b≠a/\P b=some x):=λ{b x} hb=>by
  by_cases q:b=a
  ·rw[q,aA] at hb;exact .inl ⟨q,(kr hb).symm⟩
  ·rw[aD q] at hb;exact .inr ⟨q,hb⟩
 refine⟨stay,hid,λb x hb=>?_,λb x hb hx=>?_,λb x hb hx=>?_,λb x c y hb hx hc hy e=>?_,λq p hq=>(aD (fa q p hq)).trans (S.fp q p hq),λq p hq b x hb hx=>?_⟩
 ·rcases at_ hb with⟨e,x1⟩|⟨n,hb⟩
  ·rw[e,x1,ea];exact⟨ba,r⟩
  ·rw[hD b n];exact⟨(S.rel b x hb).1,rel b x n hb⟩
 ·rcases at_ hb with⟨e,x1⟩|⟨n,hb⟩
  ·rw[e,ea];exact(hd (x1▸hx)).1
  ·rw[hD b n];exact S.dle b x hb hx
 ·rcases at_ hb with⟨e,x1⟩|⟨n,hb⟩
  ·rw[e,ea];exact(aD (hd (x1▸hx)).2.1).trans (hd (x1▸hx)).2.2.1
  ·rw[hD b n];exact(aD (Nl b x hb hx)).trans (S.dn b x hb hx)
 ·rcases at_ hb with⟨e1,x1⟩|⟨n,hb⟩<;>rcases at_ hc with⟨e2,x2⟩|⟨n',hc⟩
  ·exact e1.trans e2.symm
  ·rw[e1,ea,hD c n'] at e;exact absurd e.symm ((hd (x1▸hx)).2.2.2.1 c y n' hc hy)
  ·rw[e2,ea,hD b n] at e;exact absurd e ((hd (x2▸hy)).2.2.2.1 b x n hb hx)
  ·rw[hD b n,hD c n'] at e;exact S.di b x c y hb hx hc hy e
 ·rcases at_ hb with⟨e,x1⟩|⟨n,hb⟩
  ·rw[e,ea];exact(hd (x1▸hx)).2.2.2.2 q p hq
  ·rw[hD b n];exact S.fd q p hq b x hb hx
theorem Sat.fresh{a:Ad}(ha:h.get? a=none):P a=none/\(∀ b o,P b=some o->o.fB=true->D b≠a)/\F a=none:=by
 refine⟨?_,?_,?_⟩
 ·cases q:P a with
  | none=>rfl
  | some o=>obtain⟨ob,r⟩:=(S.rel a o q).2.self;rw[ha] at r;cases r
 ·rintro b o q hd rfl
  obtain⟨ob,r⟩:=(S.rel b o q).2.N2 hd;rw[ha] at r;cases r
 ·cases q:F a with
  | none=>rfl
  | some p=>obtain⟨_,o,r,_⟩:=S.hid a p q;rw[ha] at r;cases r
theorem Sat.alloc{a:Ad}{o:PO}(k:Mv base F Th h h')(ha:h.get? a=none)(ba:base.get? a=none)(hd:o.fB=false)(r:cZ h' F (D a) a o):Sat base h' F (upd P a o) D:=by obtain⟨f1,f2,f3⟩:=S.fresh ha;have T:=S.keep k;exact S.gen rfl T.stay T.hid (λb x j hb=>(T.rel b x hb).2) (λj j=>rfl) ba r (λq p hq z=>bB (f3.symm.trans (z▸hq))) f2 λq=>lH (q.symm.trans hd)
theorem Sat.Ca{a d:Ad}{o:PO}(k:Mv base F Th h h')(ha:h.get? a=none)(hda:h.get? d=none)(ba:base.get? a=none)(bd:base.get? d=none)(hne:a≠d)(r:cZ h' F d a o):
  Sat base h' F (upd P a o) (λb=>if b=a then d else D b):=by obtain⟨f1,f2,f3⟩:=S.fresh ha;obtain⟨g1,g2,g3⟩:=S.fresh hda;have T:=S.keep k;exact S.gen (ai rfl) T.stay T.hid (λb x j hb=>(T.rel b x hb).2) (λb n=>aa n) ba r (λq p hq z=>bB (f3.symm.trans (z▸hq))) f2 λj=>⟨bd,gz hne,g1,λb x j=>g2 b x,λq p hq z=>bB (g3.symm.trans (z▸hq))⟩
theorem Sat.set{a:Ad}{o o':PO}(k:Mv base F (·=a) h h')(ho:P a=some o)(hd:o.fB=false)(hd':o'.fB=false)
  (r:cZ h' F (D a) a o'):Sat base h' F (upd P a o') D:=S.gen rfl k.stay (S.DU k (S.fa ho)) (λb x n hb=>S.yf k n (λhx=>S.Nl ho hb hx) hb) (λj j=>rfl) (S.rel a o ho).1 r (S.fa ho) (λb x=>S.Nl ho) λq=>lH (q.symm.trans hd')
theorem Sat.JT{a:Ad}{o o':PO}(k:Mv base F (·=D a) h h')(ho:P a=some o)(hd:o.fB=true)
  (r:cZ h' F (D a) a o') (hd':o'.fB=true):Sat base h' F (upd P a o') D:=S.gen rfl k.stay (S.DU k λb p hq z=>S.fd b p hq a o ho hd z.symm) (λb x n hb=>S.yf k (λz=>bB ((S.dn a o ho hd).symm.trans (z▸hb))) (λhx z=>n (S.di b x a o hb hx ho hd z)) hb) (λj j=>rfl) (S.rel a o ho).1 r (S.fa ho) (λb x=>S.Nl ho)
  λj=>⟨S.dle a o ho hd,S.Nl ho ho hd,S.dn a o ho hd,λb x n hb hx z=>n (S.di b x a o hb hx ho hd z),λq p hq=>S.fd q p hq a o ho hd⟩
theorem Sat.Rn{a d:Ad}{o o':PO}(k:Mv base F (·=a) h h')(ho:P a=some o)(hd:o.fB=false)(hda:h.get? d=none)(bd:base.get? d=none)
  (r:cZ h' F d a o') (hd':o'.fB=true):Sat base h' F (upd P a o') (λb=>if b=a then d else D b):=by obtain⟨g1,g2,g3⟩:=S.fresh hda;exact S.gen (ai rfl) k.stay (S.DU k (S.fa ho)) (λb x n hb=>S.yf k n (λhx=>S.Nl ho hb hx) hb) (λb n=>aa n) (S.rel a o ho).1 r (S.fa ho) (λb x=>S.Nl ho) λj=>⟨bd,λz=>bB (g1.symm.trans (z▸ho)),g1,λb x j=>g2 b x,λq p hq z=>bB (g3.symm.trans (z▸hq))⟩
theorem Sat.forget{P':PH}(k:∀ a o,P' a=some o->P a=some o):Sat base h F P' D:=by
 have kn:∀ a,P a=none->P' a=none:=λa h=>by
  cases q:P' a with
  | none=>rfl
  | some o=>rw[k a o q] at h;cases h
 exact⟨S.stay,S.hid,λa o h=>S.rel a o (k a o h),λa o h=>S.dle a o (k a o h),λa o h hd=>kn _ (S.dn a o (k a o h) hd),λa o b o' h hd h' hd' e=>S.di a o b o' (k a o h) hd (k b o' h') hd' e,λa p hq=>kn _ (S.fp a p hq),λb p hq a o h hd=>S.fd b p hq a o (k a o h) hd⟩
theorem Sat.hides(k:Mv base F Th h h')(up:∀ a p,F a=some p->F' a=some p)
  (new:∀ a p,F' a=some p->F a=some p\/(h.get? a=none/\base.get? a=none/\∃ o,h'.get? a=some o/\p o)):Sat base h' F' P D:=by
 have T:=S.keep k;refine⟨T.stay,λb q hq=>?_,λb x hb=>⟨(T.rel b x hb).1,(T.rel b x hb).2.Ug up⟩,S.dle,S.dn,S.di,λb q hq=>?_,λb q hq c x hc hx=>?_⟩
 ·rcases new b q hq with e|⟨_,e1,e2⟩
  ·exact T.hid b q e
  ·exact .of e1 e2
 ·rcases new b q hq with e|⟨e,_⟩
  ·exact S.fp b q e
  ·exact(S.fresh e).1
 ·rcases new b q hq with e|⟨e,_⟩
  ·exact S.fd b q e c x hc hx
  ·exact(S.fresh e).2.1 c x hc hx
theorem Sat.zH{a:Ad}{p p':Obj->Prop}{ob:Obj}(k:Mv base F (·=a) h h')(ha:F a=some p)(e:h'.get? a=some ob)(hp:p' ob)
  (hl:(∀ b o,P b=some o->o.bR=false)\/∀ oc,h.get? a=some oc->∀ v,oc.data≠.cell (some v)):Sat base h' (cJ F a p') P D:=by
 have cs:∀{b q},cJ F a p' b=some q->(b=a/\q=p')\/(b≠a/\F b=some q):=λ{b q} hq=>by
  by_cases z:b=a
  ·rw[z,aJ] at hq;exact .inl ⟨z,(kr hq).symm⟩
  ·rw[aE z] at hq;exact .inr ⟨z,hq⟩
 refine⟨k.stay,λb q hq=>?_,λb x hb=>⟨(S.rel b x hb).1,(S.yf k (S.fa hb a p ha).symm (λhx=>S.fd a p ha b x hb hx) hb).OT λil b' p v e hp=>(aE (hl.elim (λw=>lH (il.symm.trans (w b x hb))) λw=>S.nK e hp w)).trans e⟩,S.dle,S.dn,S.di,λb q hq=>?_,λb q hq c x hc hx=>?_⟩
 ·rcases cs hq with⟨z,w⟩|⟨z,hq⟩
  ·rw[z,w];exact⟨(S.hid a p ha).b,ob,e,hp⟩
  ·let ⟨x,o,y,w⟩:=S.hid b q hq;exact .of x (k.hid b q o hq z y w)
 ·rcases cs hq with⟨z,w⟩|⟨z,hq⟩
  ·rw[z];exact S.fp a p ha
  ·exact S.fp b q hq
 ·rcases cs hq with⟨z,w⟩|⟨z,hq⟩
  ·rw[z];exact S.fd a p ha c x hc hx
  ·exact S.fd b q hq c x hc hx
theorem Sat.Dl(k:∀ b p,F' b=some p->F b=some p)(hl:(∀ b o,P b=some o->o.bR=false)\/∀ b p,F b=some p->(∃ oc,h.get? b=some oc/\∃ v,oc.data=.cell (some v))->F' b=some p):Sat base h F' P D:=⟨S.stay,λb q hq=>S.hid b q (k b q hq),λb x hb=>⟨(S.rel b x hb).1,(S.rel b x hb).2.OT λil b' p v e hp=>hl.elim (λw=>lH (il.symm.trans (w b x hb))) λw=>let ⟨_,oc,eo,po⟩:=S.hid b' p e;w b' p e ⟨oc,eo,v,by rw[hp] at po;exact po⟩⟩,S.dle,S.dn,S.di,λb q hq=>S.fp b q (k b q hq),λb q hq c x hc hx=>S.fd b q (k b q hq) c x hc hx⟩
end
noncomputable def iF:List (Str × Va):=([("BasicObject",.none),("Object",.str "BasicObject" 0),("Module",.str "Object" 0),("Class",.str "Module" 0),("Kernel",.none),("Comparable",.none),("Enumerable",.none),("NilClass",.str "Object" 0),("TrueClass",.str "Object" 0),("FalseClass",.str "Object" 0),("Numeric",.str "Object" 0),("Integer",.str "Numeric" 0)]:List (Str × Va))++([("String",.str "Object" 0),("Symbol",.str "Object" 0),("Array",.str "Object" 0),("Hash",.str "Object" 0),("Range",.str "Object" 0),("Proc",.str "Object" 0),("Fiber",.str "Object" 0),("Exception",.str "Object" 0),("ScriptError",.str "Exception" 0),("NotImplementedError",.str "ScriptError" 0),("SystemStackError",.str "Exception" 0),("StandardError",.str "Exception" 0)]:List (Str × Va))++([("ArgumentError",.str "StandardError" 0),("UncaughtThrowError",.str "ArgumentError" 0),("FiberError",.str "StandardError" 0),("IndexError",.str "StandardError" 0),("KeyError",.str "IndexError" 0),("StopIteration",.str "IndexError" 0),("LocalJumpError",.str "StandardError" 0),("NameError",.str "StandardError" 0),("NoMethodError",.str "NameError" 0),("NoMatchingPatternError",.str "StandardError" 0)]:List (Str × Va))++([("NoMatchingPatternKeyError",.str "NoMatchingPatternError" 0),("RangeError",.str "StandardError" 0),("RuntimeError",.str "StandardError" 0),("FrozenError",.str "RuntimeError" 0),("TypeError",.str "StandardError" 0),("ZeroDivisionError",.str "StandardError" 0)]:List (Str × Va))
noncomputable def nY(a:Ad):Op PO:=
 if a=788 then some (.tup [.str "Kernel" 0,.str "Comparable" 0,.str "Enumerable" 0])
 else if a=789 then some (.dict (0,0) iF)
 else if a=792 then some (.dict (0,0) [("Object",.ref 793),("Numeric",.ref 794),("String",.ref 795),("Symbol",.ref 796),("Array",.ref 797),("Hash",.ref 798),("Range",.ref 799)])
 else if a=793 then some (.tup [.str "Kernel" 0])
 else if a=794\/a=795\/a=796 then some (.tup [.str "Comparable" 0])
 else if a=797\/a=798\/a=799 then some (.tup [.str "Enumerable" 0])
 else if a=800 then some (.tup [.str "NilClass" 0,.str "TrueClass" 0,.str "FalseClass" 0,.str "Integer" 0,.str "Numeric" 0,.str "Symbol" 0])
 else if a=wj then some (.list (0,0) (Jq.map λi=>.int i 0))
 else none
end
section
structure Fx where
 env:Env
 aZ:Env
 A:Around
 base:Heap
 mg:Str->Op Va
 mb:Str->Op Va
 outer:List Env
 F:HF
 os:OsState
noncomputable abbrev Pp:List Str:=looseW qv jY
structure bP(n:Nat)(A:Around):Prop where
 dp:A.depth+n<=990
 un:A.units+10*n<=9890
def dI(m:Str->Op Va):Obj->Prop:=λo=>LCg.NsObj o m
def pR(p:Obj->Prop):Prop:=∀ o,p o->∀ v,o.data≠.cell (some v)
theorem dY{m:Str->Op Va}:pR (dI m):=λo h v q=>by obtain⟨es,ep,hd,_⟩:=h;rw[hd] at q;cases q
def eU(v:Op Va):Obj->Prop:=λo=>o.data=.cell v
structure QL(base:Heap)(mg:Str->Op Va):Prop where
 HJ:∀ k,CodeHd base (fC k) (dP k)
 VG:∃ bm ob,mg "__builtins__"=some (.ref bm)/\bm≠builtinsNs/\base.get? bm=some ob/\ob.cls=.type "module"/\ob.dict=some builtinsNs/\ob.data=.plain
structure bM(c:Fx):Prop where
 hA:c.A.frames=some (c.aZ::c.outer)
 hh:c.A.handled=none
 knd:c.env.scope.kind=.function
 qN:c.env.globals=mainGlobals
 KA:c.env.builtins=builtinsNs
 nd:(c.env.scope.names.map (·.1)).Nodup
 nF:c.F c.env.locals=none
 cF:c.aZ=c.env->∀ x a,c.env.cells.lookup x=some a->c.env.scope.names.lookup x=some .cell->c.F a=none
 cI:∀ x y a,c.env.cells.lookup x=some a->c.env.cells.lookup y=some a->x=y
 fk:c.aZ.scope.kind≠.module
 X:K.In c.base
 top:TopRead qv Pp c.mg c.mb c.base
 big:∃ o,c.base.get? sysModules=some o
 st:∀ a o,nY a=some o->cZ c.base (λq=>none) 0 a o
 frs:∀ e∈c.outer,e.scope.kind≠.module/\∃ Li m,e.frame=some Li/\c.F Li=some (dI m)
 cA:∀ x,c.env.scope.names.lookup x=some .cell->∃ a,c.env.cells.lookup x=some a
 fl:c.aZ.frame=some c.aZ.locals
 OB:∀ k,c.env.scope.names.map (·.1)=gT k->c.env.code=.ref (fC k)/\c.env.qual++"<lambda>"=gH k
 Oi:c.base.objs.size<=c.env.locals
 HJ:QL c.base c.mg
def Bound(env:Env)(G:HF)(m:Str->Op Va)(x:Str)(k:NameKind)(v:Va):Prop:=(k=.local/\∃ v',m x=some v'/\ab v'=v)\/((k=.cell\/k=.free)/\∃ a v',env.cells.lookup x=some a/\G a=some (eU (some v'))/\ab v'=v)
def lF(env:Env)(G:HF)(m:Str->Op Va)(l:Lv):Prop:=∀(i:Nat) (v:Va),l[i]?=some (some v)->∃ x k,env.scope.names[i]?=some (x,k)/\Bound env G m x k v
structure mj(c:Fx)(l:Lv)(P:PH)(s:Sh)(m:Str->Op Va)(G:HF)(D:Ad->Ad):Prop where
 ext:∀ a p,c.F a=some p->G a=some p
 loc:G c.env.locals=some (dI m)
 nU:∃ Lf mf,c.aZ.frame=some Lf/\G Lf=some (dI mf)
 oF:∀ x a,c.env.cells.lookup x=some a->∃ v,G a=some (eU v)
 own:∀ a p,G a=some p->c.F a=some p\/pR p\/((∃ v,p=eU v)/\∃ x,c.env.cells.lookup x=some a/\c.env.scope.names.lookup x=some .cell)
 sat:Sat c.base s.heap G P D
 lv:lF c.env G m l
 gens:s.gens=#[]
 os:s.os=c.os
inductive St(c:Fx)(l:Lv)(P:PH)(s:Sh):Prop
 | mk (m:Str->Op Va) (G:HF) (D:Ad->Ad) (S:mj c l P s m G D)
variable{c:Fx}{l l':Lv}{P P':PH}{s s':Sh}
theorem Sat.lt{base h:Heap}{F:HF}{P:PH}{D:Ad->Ad}(S:Sat base h F P D){a:Ad}(e:h.objs.size<=a):h.get? a=none/\base.get? a=none:=by
 suffices q:h.get? a=none by
  refine⟨q,?_⟩;cases z:base.get? a with
  | none=>rfl
  | some o=>have:=S.stay a o z;rw[q] at this;cases this
 cases q:h.get? a with
 | none=>rfl
 | some o=>exact absurd (fy q) (Nat.not_lt.mpr e)
structure Step(s s':Sh):Prop where
 le:s.heap.objs.size<=s'.heap.objs.size
 g:s'.gens=s.gens
 o:s'.os=s.os
theorem Step.toks{s:Sh}{t:Nat}:Step s { s with toks:=t }:=⟨f7 _,rfl,rfl⟩
theorem St.keep(S:St c l P s)(k:gU s.heap s'.heap)(t:Step s s'):St c l P s':=by obtain⟨m,G,D,h⟩:=S;exact⟨m,G,D,h.ext,h.loc,h.nU,h.oF,h.own,h.sat.keep (.of_keep h.sat.stay k),h.lv,t.g.trans h.gens,t.o.trans h.os⟩
theorem St.alloc(S:St c l P s){a:Ad}{o:PO}(k:gU s.heap s'.heap)(t:Step s s')(ha:s.heap.objs.size<=a)(hd:o.fB=false)
  (r:∀ F d,cZ s'.heap F d a o):P a=none/\St c l (upd P a o) s':=by obtain⟨m,G,D,h⟩:=S;obtain⟨e1,e2⟩:=h.sat.lt ha;exact⟨(h.sat.fresh e1).1,m,G,D,h.ext,h.loc,h.nU,h.oF,h.own,h.sat.alloc (.of_keep h.sat.stay k) e1 e2 hd (r _ _),h.lv,t.g.trans h.gens,t.o.trans h.os⟩
theorem St.Ca(S:St c l P s){a d:Ad}{o:PO}(k:gU s.heap s'.heap)(t:Step s s')(ha:s.heap.objs.size<=a)(hd:s.heap.objs.size<=d)(hne:a≠d)
  (r:∀ F,cZ s'.heap F d a o):P a=none/\St c l (upd P a o) s':=by obtain⟨m,G,D,h⟩:=S;obtain⟨e1,e2⟩:=h.sat.lt ha;obtain⟨d1,d2⟩:=h.sat.lt hd;exact⟨(h.sat.fresh e1).1,m,G,_,h.ext,h.loc,h.nU,h.oF,h.own,h.sat.Ca (.of_keep h.sat.stay k) e1 d1 e2 d2 hne (r _),h.lv,t.g.trans h.gens,t.o.trans h.os⟩
theorem St.set(S:St c l P s){a:Ad}{o o':PO}(k:∀ b ob,b≠a->s.heap.get? b=some ob->s'.heap.get? b=some ob)(t:Step s s')(ho:P a=some o)(hd:o.fB=false)(hd':o'.fB=false)
  (r:∀ F d,cZ s'.heap F d a o'):St c l (upd P a o') s':=by obtain⟨m,G,D,h⟩:=S;exact⟨m,G,D,h.ext,h.loc,h.nU,h.oF,h.own,h.sat.set (.iA h.sat.stay k (h.sat.rel _ _ ho).1) ho hd hd' (r _ _),h.lv,t.g.trans h.gens,t.o.trans h.os⟩
theorem St.forget(S:St c l P s)(k:∀ a o,P' a=some o->P a=some o):St c l P' s:=by obtain⟨m,G,D,h⟩:=S;exact⟨m,G,D,h.ext,h.loc,h.nU,h.oF,h.own,h.sat.forget k,h.lv,h.gens,h.os⟩
theorem lF.nil{env:Env}{G:HF}{m:Str->Op Va}:lF env G m []:=λi v e=>by simp at e
theorem vm{α β:Type}[BEq α][LawfulBEq α]{x:α}{k:β}{l:List (α × β)}(nd:(l.map (·.1)).Nodup)(h:(x,k)∈l):l.lookup x=some k:=by
 induction l with
 | nil=>exact absurd h gk
 | cons q r ih=>
  have n:=dj nd;rw[f6];rcases ku h with e|e
  ·subst e;rw[bg]
  ·rw[beq_eq_false_iff_ne.mpr λz:x=q.1=>n.1 (List.mem_map.mpr ⟨_,e,z⟩)]
   exact ih n.2 e
theorem aT{β:Type}{l:List (Str × β)}{i:Nat}{x:Str}{k:β}(nd:(l.map (·.1)).Nodup)(h:l[i]?=some (x,k)):l.lookup x=some k:=vm nd (g4 h)
theorem qf{β:Type}:∀{l:List (Str × β)} {i j:Nat} {x:Str} {k k':β},(l.map (·.1)).Nodup->l[i]?=some (x,k)->l[j]?=some (x,k')->i=j:=by
 intro l i j x k k' nd hi hj;have h1:(l.map (·.1))[i]?=some x:=by simp [hi]
 have h2:(l.map (·.1))[j]?=some x:=by simp [hj]
 have li:i<(l.map (·.1)).length:=(List.getElem?_eq_some_iff.mp h1).1;have lj:j<(l.map (·.1)).length:=(List.getElem?_eq_some_iff.mp h2).1;exact(List.getElem_inj nd).mp ((List.getElem?_eq_some_iff.mp h1).2.trans (List.getElem?_eq_some_iff.mp h2).2.symm)
variable{M:Model}{A:Around}{E:VS}{i:Nat}{x:Str}{k:NameKind}{v:Va}{pos:Pos}
theorem St.load{Q:VS}(S:St c l P s)(O:bM c)(hx:c.env.scope.names[i]?=some (x,k))(hl:l[i]?=some (some v))(hd:(x==("__debug__":Str))=false)(hn:(x==("__classdict__":Str))=false)
  (h:∀ v',ab v'=v->Q v' s):wpAny M A (eval (.Name x pos) c.env) Q E s:=by
 obtain⟨m,G,D,S⟩:=S;obtain⟨x',k',hx',b⟩:=S.lv i v hl;rw[hx] at hx';cases hx';have hk:=aT O.nd hx;rcases b with⟨rfl,v',e,q⟩|⟨hc,a,v',ea,ga,q⟩
 ·obtain⟨_,o,eo,po⟩:=S.sat.hid _ _ S.loc
  exact wpAny_Name (wpAny_loadName_local O.knd hk (po.ns eo) e (h v' q)) hd
 ·obtain⟨_,o,eo,po⟩:=S.sat.hid _ _ ga
  rcases hc with rfl|rfl
  ·exact wpAny_Name (wpAny_loadName_cell O.knd hk ea ⟨o,eo,po⟩ (h v' q)) hd
  ·exact wpAny_Name (wpAny_loadName_free O.knd hk ea ⟨o,eo,po⟩ (h v' q) hn) hd
theorem JU{env:Env}{G G':HF}{m m':Str->Op Va}(L:lF env G m l)(nd:(env.scope.names.map (·.1)).Nodup)(hx:env.scope.names[i]?=some (x,k))(hb:Bound env G' m' x k (ab v))
  (hm:∀ y,y≠x->m' y=m y) (hG:∀ y a v',y≠x->env.cells.lookup y=some a->G a=some (eU (some v'))->G' a=some (eU (some v'))):lF env G' m' (l.set i (some (ab v))):=by
 intro j u hj;by_cases hij:i=j
 ·subst hij
  rw[List.getElem?_set,ai rfl] at hj;cases (wX hj).2;exact⟨x,k,hx,hb⟩
 ·rw[List.getElem?_set_ne hij] at hj
  obtain⟨y,k',hy,b⟩:=L j u hj;have hne:y≠x:=by rintro rfl;exact hij (qf nd hx hy)
  refine⟨y,k',hy,?_⟩;rcases b with⟨rfl,v',e,q⟩|⟨hc,a,v',ea,ga,q⟩
  ·exact .inl ⟨rfl,v',(hm y hne).trans e,q⟩
  ·exact .inr ⟨hc,a,v',ea,hG y a v' hne ea ga,q⟩
theorem jE{h:Heap}{C:Ad}{m:Str->Op Va}(x:h.Ns C m):∃ o,h.get? C=some o/\dI m o:=LCg.ns_obj x
theorem pA{o:Obj}{m:Str->Op Va}(h:dI m o)(v:Op Va):¬ eU v o:=by obtain⟨es,ep,hd,_⟩:=h;intro q;unfold eU at q;rw[hd] at q;cases q
theorem B6{base h:Heap}{G:HF}{D:Ad->Ad}{a b:Ad}{m:Str->Op Va}{v:Op Va}(S:Sat base h G P D)(ha:G a=some (dI m))(hb:G b=some (eU v)):b≠a:=by
 rintro rfl
 obtain⟨_,o,eo,po⟩:=S.hid _ _ ha;obtain⟨_,o',eo',po'⟩:=S.hid _ _ hb;rw[eo] at eo';obtain rfl:=kr eo';exact pA po v po'
theorem t6{h h':Heap}{a:Ad}(x:Heap.SameBut a h h'):h'.objs.size=h.objs.size:=x.1
theorem St.store{Q:Unit->Sh->Prop}(S:St c l P s)(O:bM c)(hx:c.env.scope.names[i]?=some (x,.local))(v:Va)
  (h:∀ s',St c (l.set i (some (ab v))) P s'->Q ⟨⟩ s'):wpAny M A (storeName c.env x v) Q E s:=by
 obtain⟨m,G,D,S⟩:=S;have hk:=aT O.nd hx;obtain⟨_,o,eo,po⟩:=S.sat.hid _ _ S.loc;refine wpAny_storeName_local hk (po.ns eo) (λh' hn hs=>h _ ?_) (by rw[O.knd];rfl);obtain⟨o',eo',po'⟩:=jE hn;have kb:∀ b ob,b≠c.env.locals->s.heap.get? b=some ob->h'.get? b=some ob:=λb ob hb e=>(hs.2 b hb).trans e;refine⟨_,cJ G c.env.locals (dI λy=>if y=x then some v else m y),D,λa p e=>?_,aJ ..,?_,λy a e=>?_,λa p e=>?_,?_,?_,S.gens,S.os⟩
 ·rw[aE];exact S.ext a p e
  rintro rfl;rw[O.nF] at e;cases e
 ·obtain⟨Lf,mf,e1,e2⟩:=S.nU
  by_cases q:Lf=c.env.locals
  ·exact⟨Lf,_,e1,by rw[q];exact aJ ..⟩
  ·exact⟨Lf,mf,e1,by rw[aE q];exact e2⟩
 ·obtain⟨u,e⟩:=S.oF y a e
  exact⟨u,by rw[aE (B6 S.sat S.loc e)];exact e⟩
 ·by_cases q:a=c.env.locals
  ·subst q;rw[aJ] at e;obtain rfl:=kr e;exact .inr (.inl dY)
  ·rw[aE q] at e;exact S.own a p e
 ·refine S.sat.zH (.iA S.sat.stay kb (S.sat.hid _ _ S.loc).b) S.loc eo' po' (.inr λoc e u q=>?_)
  rw[eo] at e;obtain rfl:=kr e;exact pA po (some u) q
 ·exact JU S.lv O.nd hx (.inl ⟨rfl,v,by simp,rfl⟩) (λy hy=>by simp [hy]) λy a v' hy ea ga=>by rw[aE (B6 S.sat S.loc ga)];exact ga
noncomputable def bJ(P:PH):PH:=λa=>(P a).bind λo=>if o.bR then none else some o
theorem gG{a:Ad}{o:PO}(h:bJ P a=some o):P a=some o/\o.bR=false:=aN h λp hp e=>by
 cases q:p.bR with
 | true=>rw[q] at e;exact bB e
 | false=>rw[q] at e;have e:=kr e;subst e;exact⟨hp,q⟩
set_option tactic.hygienic true in
theorem St.GA{Q:Unit->Sh->Prop}(S:St c l P s)(O:bM c)(he:c.aZ=c.env)(hx:c.env.scope.names[i]?=some (x,.cell)){a:Ad}(ha:c.env.cells.lookup x=some a)(v:Va)
  (h:∀ s',St c (l.set i (some (ab v))) (bJ P) s'->Q ⟨⟩ s'):wpAny M A (storeName c.env x v) Q E s:=by
 obtain⟨m,G,D,S⟩:=S;have hk:=aT O.nd hx;obtain⟨u,ga⟩:=S.oF x a ha;obtain⟨_,o,eo,po⟩:=S.sat.hid _ _ ga;refine wpAny_storeName_cell O.knd hk ha ⟨o,eo,po⟩ λh' hv hs=>h _ ?_;obtain⟨o',eo',po'⟩:=hv;have kb:∀ b ob,b≠a->s.heap.get? b=some ob->h'.get? b=some ob:=λb ob hb e=>(hs.2 b hb).trans e;have la:=B6 S.sat S.loc ga;have sat':=S.sat.forget (P':=bJ P) λj j e=>(gG e).1;refine⟨m,cJ G a (eU (some v)),D,λb p e=>?_,by rw[aE (gz la)];exact S.loc,?_,λy b e=>?_,λb p e=>?_,?_,?_,S.gens,S.os⟩
 ·rw[aE];exact S.ext b p e
  rintro rfl;rw[O.cF he x b ha hk] at e;cases e
 ·obtain⟨Lf,mf,e1,e2⟩:=S.nU
  exact⟨Lf,mf,e1,by rw[aE (gz (B6 S.sat e2 ga))];exact e2⟩
 ·by_cases q:b=a
  ·subst q;exact⟨_,aJ ..⟩
  ·rw[aE q];exact S.oF y b e
 ·by_cases q:b=a
  ·subst q;rw[aJ] at e;obtain rfl:=kr e;exact .inr (.inr ⟨⟨_,rfl⟩,x,ha,hk⟩)
  ·rw[aE q] at e;exact S.own b p e
 ·exact sat'.zH (.iA S.sat.stay kb (S.sat.hid _ _ ga).b) ga eo' po' (.inl λb o e=>(gG e).2)
 ·refine JU S.lv O.nd hx (.inr ⟨.inl rfl,a,v,ha,aJ ..,rfl⟩) (λj j=>rfl) λy b v' hy eb gb=>?_
  rw[aE];exact gb
  rintro rfl;exact hy (O.cI _ _ _ eb ha)
end
section
inductive KJ(h B:Heap)(e:Ad)(fl:Va):Prop
 | mk (oe:Obj) (vs:Array Va) (T:Ad) (oT:Obj) (ts:Array Va) (a:h.get? e=some oe) (b:oe.data=.fields vs) (c:vs[1]?=some (.ref T)) (d:B.get? T=none) (n:T≠e) (f:h.get? T=some oT) (g:oT.data=.fields ts) (k:ts[3]?=some fl)
structure ED(e:Ad)(h h':Heap):Prop where
 up:∀ b o,h.get? b=some o->(∀ vs,o.data≠.fields vs)->∃ sl,h'.get? b=some { o with slots:=sl }
 ex:∀ oe vs,h.get? e=some oe->oe.data=.fields vs->∃ vs',h'.get? e=some { oe with data:=.fields vs' }
theorem ED.trans{e:Ad}{h h₁ bA:Heap}(x:ED e h h₁)(y:ED e h₁ bA):ED e h bA:=⟨λb o q hn=>let ⟨_,PZ⟩:=x.up b o q hn;let ⟨sl,P8⟩:=y.up b _ PZ hn;⟨sl,P8⟩,λoe vs q hd=>let ⟨_,PZ⟩:=x.ex oe vs q hd;let ⟨Te,P8⟩:=y.ex _ _ PZ rfl;⟨Te,P8⟩⟩
structure EG(B:Heap)(l:List Env)(e:Ad)(fl:Va)(h:Heap):Prop where
 st:B.StaysIn h
 en:B.get? e=none
 ff:h.FunFrames B l
 tr:KJ h B e fl
theorem zg{o:Obj}{vs:Array Va}(hd:o.data=.fields vs)(f:Array Va->Array Va):Obj.mapFields f o={ o with data:=.fields (f vs) }:=by obtain⟨c,d,dt,sl⟩:=o;subst hd;rfl
variable{M:Model}{A:Around}{E:VS}{s:Sh}{B:Heap}{l:List Env}{env:Env}{outer:List Env}{L e:Ad}{oe:Obj}{vs:Array Va}
theorem ya{head:Va}{hadNext:Bool}{Q:Unit->Sh->Prop}(hfr:A.frames=some (env::outer))(hl:s.heap.FunFrames B (env::outer))(hf:env.frame=some L)
  (he:s.heap.get? e=some oe) (hkb:B.StaysIn s.heap) (hen:B.get? e=none) (hd:oe.data=.fields vs) (hsz:1<vs.size)
  (h:∀ h',EG B (env::outer) e (rawInt L) h'->ED e s.heap h'->Q ⟨⟩ { s with heap:=h' }):
  wpAny M A (do let a<-frameOf env;let pl<-entryPlaceOf L hadNext;let b<-EntryCells.newEntry head a .none (rawInt L) .none pl;setField (.ref e) 1 b) Q E s:=by
 have hene:e∉(env::outer).filterMap (·.frame):=λhm=>by obtain⟨_,o,ho,hnf⟩:=hl.mem hm;rw[he] at ho;injection ho with ho;subst ho;exact hnf vs hd
 refine af (wpAny_frameOf_fun hfr hl hf λh₁ DW=>?_);refine af (wpAny_entryPlaceOf λpl hpl=>?_);unfold EntryCells.newEntry newFields;refine af (wpAny_newObj_type ?_ (hpl.sizeOk5 _ _ _ _ _));have Nz:h₁.get? e=some oe:=(DW.2.1 e hene).trans he;have NF:B.StaysIn h₁:=λb o CG=>(DW.2.1 b λhm=>by rw[(hl.mem hm).1] at CG;cases CG).trans (hkb b o CG);generalize htb:({ cls:=.type "traceback",dict:=none,data:=.fields ([head,.ref L,.none,rawInt L,.none]++(if pl.isEmpty then List.replicate 6 Value.none else pl)).toArray }:Obj)=tb;have NB:=ek (h:=h₁) tb Nz;refine wpAny_setField NB hd hsz (h _ ?_ ?_)
 all_goals
  have hTe:h₁.objs.size≠e:=jr (fy Nz);have Nv:=Obj.data_mapFields hd (·.setIfInBounds 1 (Value.ref h₁.objs.size));have NC:=g9 (Obj.mapFields (·.setIfInBounds 1 (Value.ref h₁.objs.size))) NB (Obj.isFreed_of_fields Nv);have Rz:=(ia (h₁.push tb) (Obj.mapFields (·.setIfInBounds 1 (Value.ref h₁.objs.size))) (gz hTe)).trans (fj h₁ (by subst htb;rfl));have keep:∀ b o,b≠e->h₁.get? b=some o->((h₁.push tb).update e (Obj.mapFields (·.setIfInBounds 1 (Value.ref h₁.objs.size)))).get? b=some o:=λb o CF hb=>by rw[ia _ _ (gz CF)];exact ek _ hb
  have noRecord:∀ b o,s.heap.get? b=some o->(∀ vs,o.data≠.fields vs)->b≠e:=λb o hb hnf q=>by rw[q,he] at hb;injection hb with hb;subst hb;exact hnf vs hd
 ·refine⟨λb o CG=>keep b o (λq=>by rw[q,hen] at CG;cases CG) (NF b o CG),hen,hl.of_keeps λb o hb hnf=>?_,?_⟩
  ·obtain⟨sl,hs⟩:=DW.2.2 b o hb
   exact⟨_,keep b _ (noRecord b o hb hnf) hs,rfl⟩
  ·exact⟨_,_,h₁.objs.size,_,_,NC,Nv,by simp [hsz],NF.fresh,hTe,Rz,by subst htb;rfl,by first|(simp;done)|(rcases hpl with rfl|⟨_,_,_,_,_,_,_,rfl⟩<;>simp)⟩
 ·refine⟨λb o hb hnf=>?_,λoe' vs' q hq=>?_⟩
  ·obtain⟨sl,hs⟩:=DW.2.2 b o hb
   exact⟨sl,keep b _ (noRecord b o hb hnf) hs⟩
  ·rw[he] at q;obtain rfl:=kr q
   exact⟨_,by rw[NC,zg hd]⟩
theorem lu{fl:Va}{f:Op Ad}{Q:Unit->Sh->Prop}(F:EG B l e fl s.heap)
  (h:∀ h',EG B l e (f.elim .none λx=>rawInt x) h'->ED e s.heap h'->Q ⟨⟩ { s with heap:=h' }):wpAny M A (setFlight (.ref e) f) Q E s:=by
 obtain⟨hkb,hen,hl,oe,vs,T,oT,ts,he,hd,h1,hnT,hTe,hT,hdT,h3⟩:=F;have hsz3:3<ts.size:=(Array.getElem?_eq_some_iff.mp h3).1;have other:∀ b,b≠T->(s.heap.update T (Obj.mapFields (·.setIfInBounds 3 (f.elim Value.none λf=>rawInt f)))).get? b=s.heap.get? b:=λb hb=>ia _ _ (gz hb);have noRecord:∀ b o,s.heap.get? b=some o->(∀ vs,o.data≠.fields vs)->b≠T:=λb o hb hnf q=>by rw[q,hT] at hb;injection hb with hb;subst hb;exact hnf ts hdT
 unfold setFlight;refine af (cg he hd h1 ?_);rw[ai (show(Value.ref T !=Value.none)=true from by simp)];refine wpAny_setField hT hdT hsz3 (h _ ⟨λb o CG=>(other b λq=>by rw[q,hnT] at CG;cases CG).trans (hkb b o CG),hen,hl.of_keeps λb o hb hnf=>⟨o,(other b (noRecord b o hb hnf)).trans hb,rfl⟩,?_⟩ ⟨λb o hb hnf=>⟨o.slots,(other b (noRecord b o hb hnf)).trans hb⟩,λoe' vs' q hq=>⟨vs',?_⟩⟩)
 ·exact⟨oe,vs,T,_,_,(other e (gz hTe)).trans he,hd,h1,hnT,hTe,g9 _ hT (Obj.isFreed_of_fields (Obj.data_mapFields hdT _)),Obj.data_mapFields hdT _,by simp [hsz3]⟩
 ·rw[he] at q;obtain rfl:=kr q
  rw[(other e (gz hTe)).trans he,<-hq]
theorem CR{Q:Unit->Sh->Prop}(hfr:A.frames=some (env::outer))(hl:s.heap.FunFrames B (env::outer))(hf:env.frame=some L)
  (he:s.heap.get? e=some oe) (hkb:B.StaysIn s.heap) (hen:B.get? e=none) (hd:oe.data=.fields vs) (h1:vs[1]?=some .none)
  (h:∀ h',EG B (env::outer) e (rawInt L) h'->ED e s.heap h'->Q ⟨⟩ { s with heap:=h' }):wpAny M A (noteFrame (.ref e) env) Q E s:=by unfold noteFrame;simp only[hf];refine af (cg he hd h1 ?_);rw[aa ()];exact ya hfr hl hf he hkb hen hd (Array.getElem?_eq_some_iff.mp h1).1 h
theorem rH{Q:Unit->Sh->Prop}(hfr:A.frames=some (env::outer))(hf:env.frame=some L)(F:EG B (env::outer) e .none s.heap)
  (h:∀ h',EG B (env::outer) e (rawInt L) h'->ED e s.heap h'->Q ⟨⟩ { s with heap:=h' }):wpAny M A (noteFrame (.ref e) env) Q E s:=by
 obtain⟨hkb,hen,hl,oe,vs,T,oT,ts,he,hd,h1,hnT,hTe,hT,hdT,h3⟩:=F;unfold noteFrame;simp only[hf];refine af (cg he hd h1 ?_);rw[ai (show(Value.ref T !=Value.none)=true from by simp)];refine af (cg hT hdT h3 ?_);rw[aa (show ¬ ((Value.none==rawInt L)=true) from by simp [rawInt])];refine af (wpAny_setField hT hdT (Array.getElem?_eq_some_iff.mp h3).1 ?_);have other:∀ b,b≠T->(s.heap.update T (Obj.mapFields (·.setIfInBounds 3 Value.none))).get? b=s.heap.get? b:=λb hb=>ia _ _ (gz hb);have noRecord:∀ b o,s.heap.get? b=some o->(∀ vs,o.data≠.fields vs)->b≠T:=λb o hb hnf q=>by rw[q,hT] at hb;injection hb with hb;subst hb;exact hnf ts hdT
 refine ya hfr (hl.of_keeps λb o hb hnf=>⟨o,(other b (noRecord b o hb hnf)).trans hb,rfl⟩) hf ((other e (gz hTe)).trans he)
  (λb o CG=>(other b λq=>by rw[q,hnT] at CG;cases CG).trans (hkb b o CG)) hen hd (Array.getElem?_eq_some_iff.mp h1).1
  λh' x1 x2=>h h' x1 ⟨λb o hb hnf=>x2.up b o ((other b (noRecord b o hb hnf)).trans hb) hnf,λoe' vs' q hq=>x2.ex oe' vs' ((other e (gz hTe)).trans q) hq⟩
theorem rG{Q:Unit->Sh->Prop}(hf:env.frame=some L)(F:EG B l e (rawInt L) s.heap)(h:Q ⟨⟩ s):wpAny M A (noteFrame (.ref e) env) Q E s:=by obtain⟨hkb,hen,hl,oe,vs,T,oT,ts,he,hd,h1,hnT,hTe,hT,hdT,h3⟩:=F;unfold noteFrame;simp only[hf];refine af (cg he hd h1 ?_);rw[ai (show(Value.ref T !=Value.none)=true from by simp)];refine af (cg hT hdT h3 ?_);rw[ai (by simp [rawInt])];exact aq h
theorem A8{Q:Unit->Sh->Prop}(h:wpAny M A (noteFrame (.ref e) env) (λq s'=>EG B l e (rawInt L) s'.heap/\∀ h',EG B l e .none h'->ED e s'.heap h'->Q ⟨⟩ { s' with heap:=h' }) E s):wpAny M A («leaving» env (.ref e)) Q E s:=by unfold «leaving»;exact af (ak h (λq s' x=>lu x.1 x.2) λq q x=>x)
end
section
noncomputable def fL(l:List Env):List Ad:=l.filterMap (·.frame)
structure B5(c:Fx)(P:PH)(e:Ad)(fl:Va)(s:Sh)(m:Str->Op Va)(G:HF)(D:Ad->Ad)(B:Heap):Prop where
 st:mj c [] P s m G D
 BY:EG B (c.aZ::c.outer) e fl s.heap
 base:c.base.StaysIn B
 OX:∃ C fs,P e=some (.exc C fs)
 HW:∀ a o,s.heap.get? a=some o->a≠e->a∉fL (c.aZ::c.outer)->((∃ x,P a=some x)\/(∃ p,G a=some p)\/∃ b x,P b=some x/\x.fB=true/\D b=a)->B.get? a=some o
def Od(c:Fx)(fl:Va):Prop:=fl=.none\/∃ Lf,c.aZ.frame=some Lf/\fl=rawInt Lf
inductive Exc(c:Fx)(X:Ad->PH->Prop)(ev:Va)(s:Sh):Prop
 | mk (e:Ad) (P:PH) (m:Str->Op Va) (G:HF) (D:Ad->Ad) (B:Heap) (fl:Va) (q:ev=.ref e) (k:Od c fl) (d:B5 c P e fl s m G D B) (x:X e P)
inductive Ok(c:Fx)(l:Lv)(Q:Va->PH->Prop)(v:Va)(s:Sh):Prop
 | mk (P:PH) (S:St c l P s) (h:Q (ab v) P)
theorem bG{c:Fx}{M:Model}{A:Around}{x:Sem Va}{l:Lv}{Q:Va->PH->Prop}{E Q':VS}{s:Sh}(h:wpAny M A x (Ok c l Q) E s)(k:∀ v P' s',St c l P' s'->Q (ab v) P'->Q' v s'):wpAny M A x Q' E s:=ak h (λv s' ⟨P',S',q⟩=>k v P' s' S' q) λj j x=>x
noncomputable def Dq(c:Fx)(l:Lv)(X:Ad->PH->Prop)(Q:Va->PH->Prop):Result->Sh->Prop
 | .ok (.ret v),s=>Ok c l Q v s
 | .ok _,_=>False
 | .error e,s=>Exc c X e s
noncomputable def Sv:Flow->Va
 | .ret v=>v
 | _=>.none
variable{c c':Fx}{l l':Lv}{P P':PH}{s s':Sh}{m:Str->Op Va}{G:HF}{D:Ad->Ad}{B:Heap}{e:Ad}{fl:Va}
theorem Exc.mono{X X':Ad->PH->Prop}{ev:Va}(h:Exc c X ev s)(k:∀ e P,X e P->X' e P):Exc c X' ev s:=let ⟨e,P,m,G,D,B,fl,x,f,y,z⟩:=h;⟨e,P,m,G,D,B,fl,x,f,y,k _ _ z⟩
theorem uR(O:bM c)(S:mj c l P s m G D):∀ a∈fL (c.aZ::c.outer),∃ m,G a=some (dI m):=λa ha=>by
 obtain⟨env,he,hf⟩:=List.mem_filterMap.mp ha;rcases ku he with rfl|he
 ·obtain⟨Lf,mf,e1,e2⟩:=S.nU
  rw[e1] at hf;obtain rfl:=kr hf;exact⟨mf,e2⟩
 ·obtain⟨_,Li,m,e1,e2⟩:=O.frs env he
  rw[e1] at hf;obtain rfl:=kr hf;exact⟨m,S.ext _ _ e2⟩
theorem CN{m:Str->Op Va}{o:Obj}(h:dI m o)(sl:Array (Op Va)):dI m { o with slots:=sl }:=h
theorem gI{m:Str->Op Va}{o:Obj}(h:dI m o):∀ vs,o.data≠.fields vs:=by obtain⟨es,ep,hd,_⟩:=h;intro vs q;rw[hd] at q;cases q
theorem B5.sat{h':Heap}(O:bM c)(S:mj c l P s m G D)(hb:c.base.StaysIn B)(st:B.StaysIn h')(hC:∃ C fs,P e=some (.exc C fs))(ch:ED e s.heap h')
  (HW:∀ a o,s.heap.get? a=some o->a≠e->a∉fL (c.aZ::c.outer)->((∃ x,P a=some x)\/(∃ p,G a=some p)\/∃ b x,P b=some x/\x.fB=true/\D b=a)->B.get? a=some o):
  Sat c.base h' G P D:=by
 have Iq:=uR O S;have T:=S.sat;have hL:∃ oL,h'.get? c.env.locals=some oL:=by obtain⟨_,o,eo,po⟩:=T.hid _ _ S.loc;obtain⟨sl,q⟩:=ch.up _ _ eo (gI po);exact⟨_,q⟩
 obtain⟨Ce,fse,hPe⟩:=hC;refine⟨λb o q=>st b o (hb b o q),λa p hp=>?_,λa x hx=>⟨(T.rel a x hx).1,?_⟩,T.dle,T.dn,T.di,T.fp,T.fd⟩
 ·obtain⟨x,o,y,z⟩:=T.hid a p hp
  by_cases hf:a∈fL (c.aZ::c.outer)
  ·obtain⟨m',e'⟩:=Iq a hf
   rw[hp] at e';obtain rfl:=kr e';obtain⟨sl,q⟩:=ch.up _ _ y (gI z);exact⟨x,_,q,CN z sl⟩
  ·refine⟨x,o,st _ _ (HW a o y (λq=>?_) hf (.inr (.inl ⟨p,hp⟩))),z⟩
   rw[q] at hp;have:=T.fp _ _ hp;rw[hPe] at this;cases this
 ·have r:=(T.rel a x hx).2
  have kd:∀ y,x.fB=true->s.heap.get? (D a)=some y->h'.get? (D a)=some y:=λy hd hy=>by
   refine st _ _ (HW _ _ hy (λq=>?_) (λq=>?_) (.inr (.inr ⟨a,x,hx,hd,rfl⟩)))
   ·have:=T.dn a x hx hd;rw[q,hPe] at this;cases this
   ·obtain⟨m',e'⟩:=Iq _ q
    exact T.fd _ _ e' a x hx hd rfl
  by_cases hae:a=e
  ·subst hae
   rw[hPe] at hx;obtain rfl:=kr hx;obtain⟨vs,sl,h1,es,n,h2,h3⟩:=r;obtain⟨vs',q⟩:=ch.ex _ _ h1 rfl;exact⟨vs',sl,q,es,n,kd _ rfl h2,h3⟩
  ·refine r.two (λy hy=>st _ _ (HW _ _ hy hae (λq=>?_) (.inl ⟨x,hx⟩))) kd
   obtain⟨m',e'⟩:=Iq _ q;have:=T.fp _ _ e';rw[hx] at this;cases this
theorem B5.first{h':Heap}{fl':Va}(O:bM c)(S:mj c l P s m G D)(hbb:c.base.StaysIn B)(OX:∃ C fs,P e=some (.exc C fs))
  (HW:∀ a o,s.heap.get? a=some o->a≠e->a∉fL (c.aZ::c.outer)->((∃ x,P a=some x)\/(∃ p,G a=some p)\/∃ b x,P b=some x/\x.fB=true/\D b=a)->B.get? a=some o)
  (F:EG B (c.aZ::c.outer) e fl' h') (ch:ED e s.heap h'):B5 c P e fl' { s with heap:=h' } m G D B:=by
 have sat:=B5.sat O S hbb F.st OX ch HW;have Iq:=uR O S;refine⟨⟨S.ext,S.loc,S.nU,S.oF,S.own,sat,lF.nil,S.gens,S.os⟩,F,hbb,OX,λa o ho hae hf r=>?_⟩
 have:∃ o',s.heap.get? a=some o':=by
  rcases r with⟨x,hx⟩|⟨p,hp⟩|⟨b,x,hx,hd,rfl⟩
  ·exact(S.sat.rel a x hx).2.self
  ·obtain⟨_,o',q,_⟩:=S.sat.hid a p hp;exact⟨o',q⟩
  ·exact(S.sat.rel b x hx).2.N2 hd
 obtain⟨o',ho'⟩:=this;have hB:=HW a o' ho' hae hf r;have:=F.st _ _ hB;rw[show({ s with heap:=h' }:Sh).heap.get? a=h'.get? a from rfl,this] at ho;obtain rfl:=kr ho;exact hB
theorem B5.move{h':Heap}{fl':Va}(O:bM c)(S:B5 c P e fl s m G D B)(F:EG B (c.aZ::c.outer) e fl' h')(ch:ED e s.heap h'):B5 c P e fl' { s with heap:=h' } m G D B:=B5.first O S.st S.base S.OX S.HW F ch
structure Sub(c' c:Fx)(m:Str->Op Va):Prop where
 outer:c'.outer=c.aZ::c.outer
 base:c'.base=c.base
 os:c'.os=c.os
 ext:∀ a p,c.F a=some p->c'.F a=some p
 loc:c'.F c.env.locals=some (dI m)
 nU:∃ Lf mf,c.aZ.frame=some Lf/\c'.F Lf=some (dI mf)
 oF:∀ x a,c.env.cells.lookup x=some a->∃ v,c'.F a=some (eU v)
 own:∀ a p,c'.F a=some p->c.F a=some p\/pR p\/((∃ v,p=eU v)/\∃ x,c.env.cells.lookup x=some a/\c.env.scope.names.lookup x=some .cell)
noncomputable def jC(scope:Scope):Bool:=scope.names.any λq=>q.2==.cell
noncomputable def ret(scope:Scope)(P:PH):PH:=if jC scope then bJ P else P
theorem PF{scope:Scope}(h:jC scope=false){x:Str}:scope.names.lookup x≠some .cell:=λq=>by have:=List.any_eq_false.mp h (x,.cell) (mem_of_lookup q);simp at this
theorem DB{base:Heap}(S:Sat base s.heap G P D)(ext:∀ a p,c'.F a=some p->G a=some p)
  (own:∀ a p,G a=some p->c'.F a=some p\/pR p\/((∃ v,p=eU v)/\∃ x,c'.env.cells.lookup x=some a/\c'.env.scope.names.lookup x=some .cell)):
  Sat base s.heap c'.F (ret c'.env.scope P) D:=by
 unfold ret;cases hc:jC c'.env.scope with
 | true=>rw[ai rfl];exact(S.forget λj j e=>(gG e).1).Dl ext (.inl λj j e=>(gG e).2)
 | false=>
  rw[aa ()];refine S.Dl ext (.inr λb p hp hh=>?_);rcases own b p hp with q|hn|⟨_,x,_,q⟩
  ·exact q
  ·obtain⟨_,o,eo,po⟩:=S.hid _ _ hp
   obtain⟨oc,e1,v,e2⟩:=hh;rw[eo] at e1;obtain rfl:=kr e1;exact absurd e2 (hn _ po v)
  ·exact absurd q (PF hc)
theorem Sub.back(U:Sub c' c m)(S:St c' l' P s)(lv:lF c.env c'.F m l):St c l (ret c'.env.scope P) s:=by obtain⟨m',G,D,S⟩:=S;exact⟨m,c'.F,D,U.ext,U.loc,U.nU,U.oF,U.own,U.base▸DB S.sat S.ext S.own,lv,S.gens,S.os.trans U.os⟩
theorem uT{h:Heap}{env:Env}{l:List Env}(x:h.FunFrames B (env::l)):h.FunFrames B l:=x.2.2
theorem qC{scope:Scope}{a:Ad}{x:PO}(h:ret scope P a=some x):P a=some x:=by
 unfold ret at h;split at h
 ·exact(gG h).1
 ·exact h
theorem Mw{scope:Scope}{a C:Ad}{fs:List (Nat × Va)}(h:P a=some (.exc C fs)):ret scope P a=some (.exc C fs):=by
 unfold ret;split
 ·unfold bJ;rw[h];rfl
 ·exact h
theorem B5.leave(U:Sub c' c m)(O:bM c'){m':Str->Op Va}(S:B5 c' P e .none s m' G D B)(hf:c'.aZ.frame=some c'.env.locals):B5 c (ret c'.env.scope P) e .none s m c'.F D B:=by
 obtain⟨C,fs,hE⟩:=S.OX;refine⟨⟨U.ext,U.loc,U.nU,U.oF,U.own,U.base▸DB S.st.sat S.st.ext S.st.own,lF.nil,S.st.gens,S.st.os.trans U.os⟩,⟨S.BY.st,S.BY.en,?_,S.BY.tr⟩,U.base▸S.base,⟨C,fs,Mw hE⟩,λa o ho hae hfr r=>?_⟩
 ·have:=S.BY.ff;rw[U.outer] at this;exact uT this
 ·refine S.HW a o ho hae (λhm=>?_) ?_
  ·rw[fL,List.filterMap_cons,hf] at hm
   rcases ku hm with q|hm
   ·rcases r with⟨x,hx⟩|⟨p,hp⟩|⟨b,x,hx,hd,q'⟩
    ·have:=S.st.sat.fp _ _ S.st.loc;rw[<-q,qC hx] at this;cases this
    ·rw[q,O.nF] at hp;cases hp
    ·exact S.st.sat.fd _ _ S.st.loc b x (qC hx) hd (q'.trans q)
   ·rw[U.outer] at hm;exact hfr hm
  ·rcases r with⟨x,hx⟩|⟨p,hp⟩|⟨b,x,hx,hd,q⟩
   ·exact .inl ⟨x,qC hx⟩
   ·exact .inr (.inl ⟨p,S.st.ext _ _ hp⟩)
   ·exact .inr (.inr ⟨b,x,qC hx,hd,q⟩)
theorem Exc.leave{M:Model}{E:VS}{X:Ad->PH->Prop}{ev:Va}(U:Sub c' c m)(O:bM c')(h:Exc c' (λe P=>X e (ret c'.env.scope P)) ev s)(hf:c'.aZ.frame=some c'.env.locals):
  wpAny M c'.A («leaving» c'.aZ ev) (λj s'=>Exc c X ev s') E s:=by
 obtain⟨e,P,m',G,D,B,fl,rfl,hfl,S,hX⟩:=h;refine A8 (L:=c'.env.locals) (B:=B) (l:=c'.aZ::c'.outer) ?_;rcases hfl with rfl|⟨Lf,q,rfl⟩
 ·refine rH O.hA hf S.BY λh' F ch=>⟨F,λh'' F' ch'=>?_⟩
  have S':=(S.move O F ch).move O F' ch';exact⟨e,_,m,c'.F,D,B,.none,rfl,.inl rfl,S'.leave U O hf,hX⟩
 ·rw[hf] at q;obtain rfl:=kr q
  refine rG hf S.BY ⟨S.BY,λh'' F' ch'=>?_⟩;have S':=S.move O F' ch';exact⟨e,_,m,c'.F,D,B,.none,rfl,.inl rfl,S'.leave U O hf,hX⟩
structure Ag(K:Frag)(f:Ad)(fd:FuncData)(body:List Stmt):Prop where
 at_:∃ o,K.lookup f=some o/\o.data=.func fd
 body:fd.body=.stmts body
 T7:fd.closure=[]
 qN:fd.globals=mainGlobals
 KA:fd.builtins=builtinsNs
 co:fd.scope.isCoroutine=false
 gen:fd.scope.isGenerator=false
 knd:fd.scope.kind=.function
 nd:(fd.scope.names.map (·.1)).Nodup
 code:∃ c o vs t,fd.code=.ref c/\K.lookup c=some o/\o.data=.fields vs/\vs[1]?=some (.str fd.qualname t)
 OB:∀ k,fd.scope.names.map (·.1)=gT k->fd.code=.ref (fC k)/\fd.qualname++".<locals>."++"<lambda>"=gH k
structure oU(scope:Scope)(binds:List (Str × Va)):Prop where
 nd:(binds.map (·.1)).Nodup
 kd:∀ x∈binds,scope.names.lookup x.1=some .local\/scope.names.lookup x.1=some .cell
noncomputable def fR(scope:Scope)(binds:List (Str × Va)):Lv:=scope.names.map λq=>(binds.lookup q.1).map ab
theorem kT{x:Str}:∀(nms:List (Str × NameKind)) (n:Nat) (acc:List (Str × Ad)),(nms.lookup x=some .cell\/(acc.lookup x).isSome=true)->((cellsFrom n nms acc).lookup x).isSome=true:=by
 intro rr;induction rr with
 | nil=>
  intro n acc h;rcases h with h|h
  ·cases h
  ·exact h
 | cons yk r ih=>
  obtain⟨y,k⟩:=yk;intro n acc h;unfold cellsFrom;by_cases hk:(k==NameKind.cell)=true
  ·rw[ai hk]
   refine ih _ _ ?_;by_cases hx:x=y
   ·subst hx;right;simp
   ·rw[f6,bu hx] at h
    rcases h with h|h
    ·exact .inl h
    ·right;rw[f6,bu hx];exact h
  ·rw[aa hk]
   refine ih _ _ ?_;by_cases hx:x=y
   ·subst hx
    rcases h with h|h
    ·simp at h;subst h;simp at hk
    ·exact .inr h
   ·rw[f6,bu hx] at h
    exact h
theorem EV{x:Str}{a:Ad}:∀(nms:List (Str × NameKind)) (n:Nat) (acc:List (Str × Ad)),(x,a)∈cellsFrom n nms acc->(x,.cell)∈nms\/(x,a)∈acc:=by
 intro rr;induction rr with
 | nil=>exactλn acc h=>.inr h
 | cons yk r ih=>
  obtain⟨y,k⟩:=yk;intro n acc h;unfold cellsFrom at h;by_cases hk:(k==NameKind.cell)=true
  ·rw[ai hk] at h
   rcases ih _ _ h with q|q
   ·exact .inl (.tail _ q)
   ·rcases ku q with q|q
    ·cases q
     obtain rfl:k=.cell:=by simpa using hk
     exact .inl (.head _)
    ·exact .inr q
  ·rw[aa hk] at h
   rcases ih _ _ h with q|q
   ·exact .inl (.tail _ q)
   ·exact .inr q
theorem HG:∀(nms:List (Str × NameKind)) (n:Nat) (acc:List (Str × Ad)),(nms.map (·.1)).Nodup->(acc.map (·.1)).Nodup->(∀ x∈nms.map (·.1),x∉acc.map (·.1))->((cellsFrom n nms acc).map (·.1)).Nodup:=by
 intro rr;induction rr with
 | nil=>exactλn acc j h j=>h
 | cons yk r ih=>
  obtain⟨y,k⟩:=yk;intro n acc h1 h2 h3;rw[gn,jj] at h1;unfold cellsFrom;split
  ·refine ih _ _ h1.2 ?_ λx hx=>?_
   ·rw[gn,jj];exact⟨h3 y (.head _),h2⟩
   ·rw[gn,kh,not_or]
    exact⟨λq=>h1.1 (q▸hx),h3 x (.tail _ hx)⟩
  ·exact ih _ _ h1.2 h2 λx hx=>h3 x (.tail _ hx)
theorem fM{β:Type}{l:List (Str × β)}{x:Str}{k:β}(nd:(l.map (·.1)).Nodup)(h:(x,k)∈l):l.lookup x=some k:=by obtain⟨i,hi⟩:=List.mem_iff_getElem?.mp h;exact aT nd hi
theorem xF{kindOf:Str->Op NameKind}{x:Str}:∀{binds:List (Str × Va)} {m:Str->Op Va},x∉binds.map (·.1)->bindL kindOf binds m x=m x
 | [],m,_=>rfl
 | (n,v)::r,m,h=>by
  rw[gn,kh,not_or] at h;unfold bindL;rw[xF h.2];split
  ·simp [h.1]
  ·rfl
theorem xE{kindOf:Str->Op NameKind}{x:Str}{v:Va}(hk:kindOf x=some .local):∀{binds:List (Str × Va)} {m:Str->Op Va},(binds.map (·.1)).Nodup->binds.lookup x=some v->bindL kindOf binds m x=some v
 | (n,u)::r,m,nd,h=>by
  rw[gn,jj] at nd;unfold bindL;by_cases hx:x=n
  ·subst hx
   simp at h;subst h;rw[xF nd.1,ai hk];simp
  ·rw[f6,bu hx] at h
   exact xE hk nd.2 h
theorem xD{kindOf:Str->Op NameKind}{x:Str}:∀{binds:List (Str × Va)} {m:Str->Op Va},x∉binds.map (·.1)->bindC kindOf binds m x=m x
 | [],m,_=>rfl
 | (n,v)::r,m,h=>by
  rw[gn,kh,not_or] at h;unfold bindC;rw[xD h.2];split
  ·rfl
  ·simp [h.1]
theorem xC{kindOf:Str->Op NameKind}{x:Str}{v:Va}(hk:kindOf x=some .cell):∀{binds:List (Str × Va)} {m:Str->Op Va},(binds.map (·.1)).Nodup->binds.lookup x=some v->bindC kindOf binds m x=some v
 | (n,u)::r,m,nd,h=>by
  rw[gn,jj] at nd;unfold bindC;by_cases hx:x=n
  ·subst hx
   simp at h;subst h;rw[xD nd.1,aa (by rw[hk];decide)];simp
  ·rw[f6,bu hx] at h
   exact xC hk nd.2 h
noncomputable def Iq(e:Env)(L:Obj->Prop)(cm:Str->Op Va)(G:HF):HF:=λa=>if a=e.locals then some L else((e.cells.find? λq=>q.2==a).map λq=>eU (cm q.1)).or (G a)
theorem DS{e:Env}{L:Obj->Prop}{cm:Str->Op Va}{G:HF}{a:Ad}{p:Obj->Prop}(h:Iq e L cm G a=some p):(a=e.locals/\p=L)\/(∃ y,(y,a)∈e.cells/\p=eU (cm y))\/G a=some p:=by
 by_cases q:a=e.locals
 ·exact .inl ⟨q,(kr ((ai q).symm.trans h)).symm⟩
 ·rcases Option.or_eq_some_iff.mp ((aa q).symm.trans h) with h|h
  ·refine dK h λr hr e=>.inr (.inl ⟨r.1,?_,e.symm⟩)
   have w:r.2=a:=beq_iff_eq.mp (List.find?_some (p:=λq:Str × Ad=>q.2==a) hr);exact w▸List.mem_of_find?_eq_some hr
  ·exact .inr (.inr h.2)
theorem Ls{e:Env}{L:Obj->Prop}{cm:Str->Op Va}{G:HF}{a:Ad}(q:a≠e.locals)(w:∀ y,(y,a)∉e.cells):Iq e L cm G a=G a:=by refine(aa q).trans ?_;rw[List.find?_eq_none.mpr λx hx hq=>w x.1 (beq_iff_eq.mp hq▸hx)];rfl
theorem Ir{e:Env}{L:Obj->Prop}{cm:Str->Op Va}{G:HF}{a:Ad}{y:Str}(nd:∀{y z a},(y,a)∈e.cells->(z,a)∈e.cells->y=z)(q:a≠e.locals)(h:(y,a)∈e.cells):Iq e L cm G a=some (eU (cm y)):=by
 refine(aa q).trans ?_;cases f:e.cells.find? λq=>q.2==a with
 | none=>exact absurd (bg a) (List.find?_eq_none.mp f _ h)
 | some r=>have w:r.2=a:=beq_iff_eq.mp (List.find?_some (p:=λq:Str × Ad=>q.2==a) f);exact aj (λy=>some (eU (cm y))) (nd (w▸List.mem_of_find?_eq_some f) h)
set_option tactic.hygienic true in
theorem H8{n:Nat}{f:Ad}{fd:FuncData}{body:List Stmt}{args:Args}{binds:List (Str × Va)}{X:Ad->PH->Prop}{Q:Va->PH->Prop}
  (S:St c l P s) (O:bM c) (rm:bP (n+1) c.A) (fn:Ag K f fd body) (hb:BindsTo s fd args binds) (hk:oU fd.scope binds)
  (h:∀ c' m s',bM c'->bP n c'.A->c'.env.scope=fd.scope->c'.aZ=c'.env->Sub c' c m->c'.aZ.frame=some c'.env.locals->St c' (fR fd.scope binds) P s'->wpAny (model pw wd) c'.A (execs body c'.env) (λfl s''=>∃ l' P',St c' l' P' s''/\Q (ab (Sv fl)) (ret fd.scope P')) (λev s''=>∀ E,wpAny (model pw wd) c'.A («leaving» c'.aZ ev) (λj s'=>Exc c X ev s') E s'') s'):
  codeAny (model pw wd) c.A (.call (.ref f) args) (Dq c l X Q) s:=by
 obtain⟨m,G,D,S⟩:=S;have T:=S.sat;have hbs:=T.stay;obtain⟨o,ho,hd⟩:=fn.at_;obtain⟨cc,oc,vs,t,e1,e2,e3,e4⟩:=fn.code;have kin:∀ a o,K.lookup a=some o->s.heap.get? a=some o:=λa o q=>hbs _ _ (O.X a o q);refine codeAny_call_function (gr (gr (gr (Nat.lt_succ_self _) (Nat.add_le_add_left (Nat.le_add_left 1 n) _)) rm.dp) ⋯) (kin _ _ ho) hd fn.co fn.gen fn.body ⟨cc,oc,vs,t,e1,kin _ _ e2,e3,e4⟩ (hb _ _ _ _ ?_);rw[fn.T7];refine wpAny_newFunctionEnv_cells fn.knd (λx hx=>(hk.kd x hx).imp_right λq=>⟨q,kT _ _ _ (.inl q)⟩) λenv' he s' x=>?_;have hkeep:=x.toInCall.keep;refine⟨(O.top.nolimit.keeps hbs).keeps hkeep,codeAny_func ?_⟩;obtain⟨h₁,tk,rfl⟩:=x.toInCall.same;have o9:env'.cells=cellsFrom (s.heap.objs.size+1) fd.scope.names []:=by rw[he];rfl
 have hloc:env'.locals=s.heap.objs.size:=by rw[he];rfl
 have jX:env'.scope=fd.scope:=by rw[he];rfl
 have hframe:env'.frame=some env'.locals:=by rw[he];rfl
 have cnd:(env'.cells.map (·.1)).Nodup:=by rw[o9];exact HG _ _ _ fn.nd .nil (λx j q=>nomatch q)
 have DH:∀{y z a},(y,a)∈env'.cells->(z,a)∈env'.cells->y=z:=λh1 h2=>name_of_addr x.apart h1 h2;let cm:=bindC env'.kindOf binds λj=>none;let G':HF:=Iq env' (dI (bindL env'.kindOf binds λj=>none)) cm G;have hG'L:G' env'.locals=some (dI (bindL env'.kindOf binds λj=>none)):=ai rfl;have above:∀{y a},(y,a)∈env'.cells->s.heap.objs.size<a:=λ{y a} hm=>by have:=x.above y a hm;rwa [hloc] at this
 have CE:∀ a,a<s.heap.objs.size->G' a=G a:=λa ha=>Ls (λq=>gq ha (q.trans hloc)) λy hm=>ig _ (gy ha (above hm));have ltG:∀ a p,G a=some p->a<s.heap.objs.size:=λa p q=>let ⟨_,o,eo,_⟩:=T.hid a p q;fy eo;have Iz:∀ y a,env'.cells.lookup y=some a->G' a=some (eU (cm y)):=λy a q=>Ir DH (λz=>jr (above (mem_of_lookup q)) (z.trans hloc)) (mem_of_lookup q);let c':Fx:=⟨env',env',c.A.deeper env',c.base,c.mg,c.mb,c.aZ::c.outer,G,c.os⟩
 have O':bM c':=by
  refine⟨Around.frames_deeper O.hA,O.hh,by rw[jX];exact fn.knd,by show env'.globals=_;rw[he];exact fn.qN,by show env'.builtins=_;rw[he];exact fn.KA,by rw[jX];exact fn.nd,?_,λj y a q j=>?_,λy z a q r=>DH (mem_of_lookup q) (mem_of_lookup r),by rw[jX,fn.knd];decide,O.X,O.top,O.big,O.st,λe' hm=>?_,λx hx=>cz (by rw[o9];exact kT fd.scope.names (s.heap.objs.size+1) [] (.inl (jX▸hx))),hframe,λk hk'=>?_,?_,O.HJ⟩
  ·cases q:G env'.locals with
   | none=>exact q
   | some p=>have:=ltG _ _ q;rw[hloc] at this;exact absurd this (ig _)
  ·cases r:G a with
   | none=>exact r
   | some p=>exact absurd (gy (ltG _ _ r) (by have:=x.above y a (mem_of_lookup q);rw[hloc] at this;exact this)) (ig _)
  ·rcases ku hm with rfl|hm
   ·obtain⟨Lf,mf,q1,q2⟩:=S.nU
    exact⟨O.fk,Lf,mf,q1,q2⟩
   ·obtain⟨q0,Li,mi,q1,q2⟩:=O.frs e' hm
    exact⟨q0,Li,mi,q1,S.ext _ _ q2⟩
  ·rw[jX] at hk'
   obtain⟨q1,q2⟩:=fn.OB k hk';refine⟨by show env'.code=_;rw[he];exact q1,?_⟩;show env'.qual++_=_;rw[he];exact q2
  ·show c.base.objs.size<=env'.locals
   rw[hloc];obtain⟨_,o,eo,_⟩:=T.hid _ _ S.loc;exact ja (k6 O.Oi (fy eo))
 have ns:=x.toInCall.ns;have hle:s.heap.objs.size<=h₁.objs.size:=by have:env'.locals<h₁.objs.size:=ns.lt;rw[hloc] at this;exact ja this
 have S':mj c' (fR fd.scope binds) P { s with heap:=h₁,toks:=tk } (bindL env'.kindOf binds λj=>none) G' D:=by
  refine⟨λa p q=>(CE a (ltG a p q)).trans q,hG'L,⟨_,_,hframe,hG'L⟩,λy a q=>⟨_,Iz y a q⟩,λa p q=>?_,?_,?_,S.gens,S.os⟩
  ·rcases DS q with⟨-,rfl⟩|⟨y,hm,rfl⟩|q'
   ·exact .inr (.inl dY)
   ·refine .inr (.inr ⟨⟨_,rfl⟩,y,fM cnd hm,?_⟩)
    rcases EV _ _ _ (o9▸hm) with z|z
    ·show env'.scope.names.lookup y=_
     rw[jX];exact fM fn.nd z
    ·cases z
   ·exact .inl q'
  ·refine T.hides (.of_keep T.stay hkeep) (λa p q=>(CE a (ltG a p q)).trans q) λa p q=>?_
   by_cases ha:a<s.heap.objs.size
   ·exact .inl ((CE a ha).symm.trans q)
   ·obtain⟨z1,z2⟩:=T.lt (Nat.not_lt.mp ha)
    rcases DS q with⟨rfl,rfl⟩|⟨y,hm,rfl⟩|q'
    ·exact .inr ⟨z1,z2,jE ns⟩
    ·obtain⟨oc,q1,q2⟩:=x.cell y a (fM cnd hm)
     exact .inr ⟨z1,z2,oc,q1,q2⟩
    ·exact .inl q'
  ·intro i v hi
   unfold fR at hi;rw[gj] at hi;cases hn:fd.scope.names[i]? with
   | none=>rw[hn] at hi;cases hi
   | some q=>
    obtain⟨y,k⟩:=q;rw[hn] at hi;simp only[i7,je] at hi;cases hb':binds.lookup y with
    | none=>rw[hb'] at hi;cases hi
    | some v'=>
     rw[hb'] at hi;simp only[i7,je] at hi;have hky:=aT fn.nd hn;have hkind:env'.kindOf y=some k:=by show env'.scope.names.lookup y=_;rw[jX];exact hky
     refine⟨y,k,by show env'.scope.names[i]?=_;rw[jX];exact hn,?_⟩;rcases hk.kd (y,v') (mem_of_lookup hb') with q|q
     ·have hkl:k=.local:=kr (hky.symm.trans q)
      subst hkl;exact .inl ⟨rfl,v',xE hkind hk.nd hb',hi⟩
     ·have hkl:k=.cell:=kr (hky.symm.trans q)
      subst hkl;obtain⟨a,ha⟩:=cz (kT fd.scope.names (s.heap.objs.size+1) [] (.inl q));rw[<-o9] at ha;refine .inr ⟨.inl rfl,a,v',ha,?_,hi⟩;rw[Iz y a ha,show cm y=some v' from xC hkind hk.nd hb']
 have U:Sub c' c m:=⟨rfl,rfl,rfl,S.ext,S.loc,S.nU,S.oF,S.own⟩
 refine ak (h c' m _ O' ⟨?_,?_⟩ jX rfl U hframe ⟨_,G',D,S'⟩) (λfl s'' hq=>?_) λev s'' hx=>?_
 ·have:=rm.dp;show c.A.depth+1+n<=990;lia
 ·have:=rm.un;show c.A.units+3+10*n<=9890;lia
 ·obtain⟨l',P',qM,hQ⟩:=hq
  have:=U.back qM S.lv;rw[show c'.env.scope=fd.scope from jX] at this;cases fl<;>exact⟨_,this,hQ⟩
 ·exact hx _
theorem enter{n:Nat}{f:Ad}{fd:FuncData}{body:List Stmt}{args:Args}{binds:List (Str × Va)}{X:Ad->PH->Prop}{Q:Va->PH->Prop}
  (S:St c l P s) (O:bM c) (rm:bP (n+1) c.A) (fn:Ag K f fd body) (hb:BindsTo s fd args binds) (hk:oU fd.scope binds)
  (h:∀ c' s',bM c'->bP n c'.A->c'.env.scope=fd.scope->c'.aZ=c'.env->St c' (fR fd.scope binds) P s'->wpAny (model pw wd) c'.A (execs body c'.env) (λfl s''=>∃ l' P',St c' l' P' s''/\Q (ab (Sv fl)) (ret fd.scope P')) (λe s''=>Exc c' (λe P=>X e (ret fd.scope P)) e s'') s'):
  codeAny (model pw wd) c.A (.call (.ref f) args) (Dq c l X Q) s:=H8 S O rm fn hb hk λc' m s' O' R' hs he U hf S'=>ak (h c' s' O' R' hs he S') (λq q x=>x) λev s'' hx E=>by refine Exc.leave (X:=X) U O' ?_ hf;rw[hs];exact hx
end
section
noncomputable abbrev MM(wd:World):Model:=model pw wd
noncomputable def led(base h:Heap)(L:Ad):List (Ad × Obj):=((List.range h.objs.size).filter λa=>(base.get? a).isNone&&a !=L&&(h.get? a).isSome).map λa=>(a,(h.get? a).getD default)
theorem qq{base h:Heap}{L a:Ad}{o:Obj}:(a,o)∈led base h L↔h.get? a=some o/\base.get? a=none/\a≠L:=by
 unfold led;rw[List.mem_map];constructor
 ·rintro ⟨b,hb,e⟩
  rw[List.mem_filter] at hb;obtain⟨_,hb⟩:=hb;simp only[e9,Option.isNone_iff_eq_none,bne_iff_ne,ne_eq] at hb;obtain⟨⟨h1,h2⟩,h3⟩:=hb;obtain⟨ob,h4⟩:=cz h3;rw[h4] at e;cases e;exact⟨h4,h1,h2⟩
 ·rintro ⟨h1,h2,h3⟩
  refine⟨a,List.mem_filter.mpr ⟨List.mem_range.mpr (fy h1),?_⟩,by rw[h1];rfl⟩;simp [h1,h2,h3]
theorem Ft{base h:Heap}{L:Ad}:((led base h L).map (·.1)).Nodup:=by unfold led;rw[ir];have:((λx:Ad × Obj=>x.1)∘λa=>(a,(h.get? a).getD default))=id:=rfl;rw[this,List.map_id];exact List.nodup_range.filter _
theorem Fv{base h:Heap}{L a:Ad}{o:Obj}(hm:(a,o)∈led base h L):∃ pre post,led base h L=pre++(a,o)::post/\(∀ p∈pre,p.1≠a)/\∀ p∈post,p.1≠a:=by obtain⟨pre,post,e⟩:=List.append_of_mem hm;have nd:=Ft (base:=base) (h:=h) (L:=L);rw[e,i8,gn,List.nodup_append] at nd;obtain⟨n1,n2,n3⟩:=nd;rw[jj] at n2;exact⟨pre,post,e,λq hq z=>n3 q.1 (jx hq) a (.head _) z,λq hq z=>n2.1 (by have y:q.1∈post.map (·.1):=jx hq;rw[z] at y;exact y)⟩
variable{c:Fx}{l l':Lv}{P P':PH}{s s':Sh}{m:Str->Op Va}{G:HF}{D:Ad->Ad}
theorem mj.fr(O:bM c)(S:mj c l P s m G D):Fr c.base c.env.locals s.heap m:=by obtain⟨h1,o,eo,po⟩:=S.sat.hid _ _ S.loc;exact⟨po.ns eo,S.sat.stay,O.Oi⟩
theorem mj.news(_S:mj c l P s m G D):News c.base c.env.locals s.heap (led c.base s.heap c.env.locals):=λq hq=>by obtain⟨a,o⟩:=q;obtain⟨h1,h2,h3⟩:=qq.mp hq;exact⟨h1,h3,h2⟩
theorem mj.mv(S:mj c l P s m G D){h':Heap}{x:Ad->Prop}(F':Fr c.base c.env.locals h' m)(hx:∀ a o,¬ x a->(a,o)∈led c.base s.heap c.env.locals->h'.get? a=some o):Mv c.base G x s.heap h':=by
 have T:=S.sat;refine⟨F'.keep,λb p o hb hn e po=>?_,λb o hn hF hb e=>?_⟩
 ·by_cases hL:b=c.env.locals
  ·subst hL
   rw[S.loc] at hb;obtain rfl:=kr hb;exact jE F'.ns
  ·exact⟨o,hx b o hn (qq.mpr ⟨e,(T.hid b p hb).b,hL⟩),po⟩
 ·refine hx b o hn (qq.mpr ⟨e,hb,?_⟩)
  rintro rfl;rw[S.loc] at hF;cases hF
theorem mj.moved(S:mj c l P s m G D){s':Sh}{P':PH}{D':Ad->Ad}(T:Sat c.base s'.heap G P' D')(g:s'.gens=s.gens)(o:s'.os=s.os):mj c l P' s' m G D':=⟨S.ext,S.loc,S.nU,S.oF,S.own,T,S.lv,g.trans S.gens,o.trans S.os⟩
variable{A:Around}{E:VS}{Q:Va->PH->Prop}
noncomputable def kY(K:Frag)(C:Ad)(x:Nat):Bool:=Nat.blt x 58&&plainGet K C (nm x)&&hasDictIn K C&&(findIn K (.ref C) (nm x)==some none)&&(findIn K (.ref C) "__setattr__"==some (some (.builtin "object.__setattr__")))&&plainOver K C&&(takerIn K C (nm x)==some none)
structure tu(K:Frag)(C:Ad)(x:Nat):Prop where
 lt:x<58
 pg:plainGet K C (nm x)=true
 hd:hasDictIn K C=true
 fi:findIn K (.ref C) (nm x)=some none
 sa:findIn K (.ref C) "__setattr__"=some (some (.builtin "object.__setattr__"))
 po:plainOver K C=true
 tk:takerIn K C (nm x)=some none
theorem tu.of{K:Frag}{C:Ad}{x:Nat}(h:kY K C x=true):tu K C x:=by unfold kY at h;simp only[e9,az] at h;obtain⟨⟨⟨⟨⟨⟨h1,h2⟩,h3⟩,h4⟩,h5⟩,h6⟩,h7⟩:=h;exact⟨bl h1,h2,h3,h4,h5,h6,h7⟩
theorem xV(v:Va):handedIn (ab v)=handedIn v:=by cases v<;>rfl
theorem cZ.yV{h:Heap}{F:HF}{d a C:Ad}{fs:List (Nat × Va)}(r:cZ h F d a (.inst C fs)):∃ es n,gQ es fs/\h.get? d=some (dictOf es n)/\InstAt h a (instObj C d) C (some (dictOf es n)):=by obtain⟨h1,es,n,h2,h3⟩:=r;exact⟨es,n,h3,h2,h1,rfl,rfl,h2⟩
theorem Mb{a C:Ad}{fs:List (Nat × Va)}{x:Nat}{v:Va}{name:Str}(S:St c l P s)(O:bM c)(hP:P a=some (.inst C fs))(hf:kY K C x=true)(hn:name=nm x)(hg:eH x fs=some v)(hh:handedIn v=true)(hQ:Q v P):
  wpAny (MM wd) A (getAttr (.ref a) name true) (Ok c l Q) E s:=by
 subst hn;obtain⟨m,G,D,S⟩:=S;have f:=tu.of hf;obtain⟨es,n,hr,hd,I⟩:=(S.sat.rel a _ hP).2.yV;obtain⟨r,hl,hv⟩:=hr.get f.lt;rw[hg] at hv;cases r with
 | none=>cases hv
 | some v'=>simp only[i7,je] at hv;refine get_own (S.fr O) O.X I f.pg f.hd f.fi rfl hl (by rw[<-xV,hv];exact hh) ⟨P,⟨m,G,D,S.moved S.sat rfl rfl⟩,by rw[hv];exact hQ⟩
theorem CV{a C:Ad}{fs:List (Nat × Va)}{x:Nat}{v:Va}{name:Str}{Q:Unit->Sh->Prop}(S:St c l P s)(O:bM c)(hP:P a=some (.inst C fs))(hf:kY K C x=true)(hn:name=nm x)(hz:fs.length<900)
  (hQ:∀ s',St c l (upd P a (.inst C (eN x (ab v) fs))) s'->Q ⟨⟩ s'):wpAny (MM wd) A (setAttr (.ref a) name v) Q E s:=by
 subst hn;obtain⟨m,G,D,S⟩:=S;have f:=tu.of hf;obtain⟨hb,rel⟩:=S.sat.rel a _ hP;obtain⟨es,n,hr,hd,I⟩:=rel.yV;obtain⟨r,hl,hv⟩:=hr.get f.lt;have hD:D a≠c.env.locals:=S.sat.fd _ _ S.loc a _ hP rfl;have hmem:(D a,dictOf es n)∈led c.base s.heap c.env.locals:=qq.mpr ⟨hd,(S.sat.dle a _ hP rfl),hD⟩;obtain⟨pre,post,e,h1,h2⟩:=Fv hmem;refine set_plain (S.sat.stay |> λk=>O.X.keeps k) I f.sa (osa_dict (s:={ s with toks:=s.toks+1 }) (show Fr c.base c.env.locals s.heap m from S.fr O) (e▸S.news) (O.X.keeps S.sat.stay) I rfl f.po f.tk f.hd (by show(getL (nm x) es).isSome=true;rw[hl];rfl) h1 h2 (putName_dict ..) rfl ?_ λh' F' N'=>?_)
 ·have:=(hr.put f.lt (PyData.keyHash wd.params (nm x)) (s.toks+1) v).len
  have h3:=JL x (ab v) fs;show(putL _ _ _ _ _).length<=1000;rw[this];lia
 ·refine hQ _ ⟨m,G,D,S.moved (S.sat.JT (S.mv (x:=(·=D a)) F' λb o hb ho=>?_) hP rfl ⟨?_,_,_,(N' (D a,_) (fq _ (.head _))).1,hr.put f.lt _ _ v⟩ rfl) rfl rfl⟩
  ·rw[e] at ho
   rcases cy ho with q|q
   ·exact(N' _ (fh _ q)).1
   ·rcases ku q with q|q
    ·cases q;exact absurd rfl hb
    ·exact(N' _ (fq _ (.tail _ q))).1
  ·have ha:a≠D a:=λz=>by have:=S.sat.dn a _ hP rfl;rw[<-z,hP] at this;cases this
   have hL:a≠c.env.locals:=λz=>by have:=S.sat.fp _ _ S.loc;rw[<-z,hP] at this;cases this
   have:(a,instObj C (D a))∈led c.base s.heap c.env.locals:=qq.mpr ⟨rel.1,hb,hL⟩;rw[e] at this;rcases cy this with q|q
   ·exact(N' _ (fh _ q)).1
   ·rcases ku q with q|q
    ·exact absurd (jb q).1 ha
    ·exact(N' _ (fq _ (.tail _ q))).1
end
section
open PySem.Builtin PySem.Builtin.ObjectAttr
noncomputable def cT(x:Nat):Bool:=x==42||x==43
noncomputable abbrev yO:List Va:=[.ref 785,.ref 765,.type "ValueError",.type "Exception",.type "BaseException",.type "object"]
structure r8(K:Frag):Prop where
 cls:∃ cd,clsIn K 785=some cd/\cd.mro=yO/\cd.hasDict=true
 ga:findIn K (.ref 785) "__getattribute__"=some (some (.builtin "BaseException.__getattribute__"))
 gt:findIn K (.ref 785) "__getattr__"=some none
 sa:findIn K (.ref 785) "__setattr__"=some (some (.builtin "object.__setattr__"))
 fl:∀ x,cT x=true->findIn K (.ref 785) (nm x)=some none
noncomputable def Ii(K:Frag):Bool:=(match clsIn K 785 with
  | some cd=>(cd.mro==yO)&&cd.hasDict
  | none=>false)&&(findIn K (.ref 785) "__getattribute__"==some (some (.builtin "BaseException.__getattribute__")))&&(findIn K (.ref 785) "__getattr__"==some none)&&
 (findIn K (.ref 785) "__setattr__"==some (some (.builtin "object.__setattr__")))&&(findIn K (.ref 785) (nm 42)==some none)&&(findIn K (.ref 785) (nm 43)==some none)
set_option tactic.hygienic true in
theorem r8.of{K:Frag}(h:Ii K=true):r8 K:=by
 unfold Ii at h;simp only[e9,az] at h;obtain⟨⟨⟨⟨⟨h1,h2⟩,h3⟩,h4⟩,h5⟩,h6⟩:=h;refine⟨?_,h2,h3,h4,λx hx=>?_⟩
 ·split at h1
  ·rename_i cd hc
   simp only[e9,az] at h1;exact⟨cd,hc,h1.1,h1.2⟩
  ·cases h1
 ·unfold cT at hx
  simp only[j4,az] at hx;rcases hx with rfl|rfl
  ·exact h5
  ·exact h6
section
variable{K:Frag}{A:Around}{s:Sh}{R:Result->Sh->Prop}{x:Ad}{ox:Obj}{od:Op Obj}
theorem Ed{T:String}(E:r8 K)(X:K.In s.heap)(h:yO.contains (.type T)=true):Looks (model pw wd) s.heap (isSubtype (.ref 785) (.type T)) true:=by obtain⟨cd,hc,hm,_⟩:=E.cls;exact looks_mroIn X (by unfold mroIn;rw[hc,jv,hm,aa (),h])
theorem Em{name:Str}{tk:Tok}{v:Va}(E:r8 K)(X:K.In s.heap)(I:InstAt s.heap x ox 785 od)(hf:findIn K (.ref 785) name=some none)
  (h:wpAny (model pw wd) A.in1 (storeInOwnDict (.ref x) (.ref 785) (.str name tk) name v false)
   (λfin s'=>match fin with|.done f=>R (.ok f) s'|.again c'=>c'.quiet=true/\codeAny (model pw wd) A c' R s') (λe s'=>R (.error e) s') s):
  codeAny (model pw wd) A (.call (.builtin "object.__setattr__") ⟨[.ref x,.str name tk,v],[]⟩) R s:=by have SF:=PySem.F.store_object;have sub:Looks (model pw wd) s.heap (isInstance (.ref x) (.type "object")) true:=I.type.andThen (Ed E X ());refine codeAny_call_builtin SF.slot.plain SF.entry (@check_slot (model pw wd) _ _ s "object.__setattr__" "object" "__setattr__" (.ref x) [.str name tk,v] [] _ SF.kind SF.split sub (SF.args (.ref x) (.str name tk) v) ?_);obtain⟨cd,hc,hmro,_⟩:=E.cls;have hm:Looks (model pw wd) s.heap (mroOf (.ref 785)) yO:=hmro▸(looks_clsIn X hc).andThen .now;rw[osa_eq,refuse_eq];refine af (af (I.type.here (af (hm.here ?_))));rw[refuseLoop_ref,refuseLoop_ref,PySem.F.store_ValueError.passes];exact aq (af (I.type.here (af ((looks_findIn X hf).here (af (aq h))))))
theorem Mr(name:Str)(hs:Int)(k v:Va):∀ es:List DictEntry,(putL name hs k v es).length<=es.length+1:=by
 intro rr;induction rr with
 | nil=>exact by simp [putL]
 | cons e es ih=>have:=ih;unfold putL;split<;>simp<;>lia
theorem A5{d:Ad}{name:Str}{tk:Tok}{v:Va}{es:List DictEntry}{n:Nat}{h:Heap}{Q:Fin->Sh->Prop}{E:VS}(hd:h.get? d=some (dictOf es n))(hr:es.any (·.refKey)=false)(hz:es.length<=900)
  (k:∀ h' t',(∀ b,b≠d->h'.get? b=h.get? b)->h'.objs.size=h.objs.size->h'.get? d=some (dictOf (putL name (PyData.keyHash wd.params name) (.str name s.toks) v es) (putN name es n))->Q (.done (.ret .none)) { s with heap:=h',toks:=t' }):
  wpAny (model pw wd) A (storeInDict d (.str name tk) name v) Q E { s with heap:=h }:=by
 unfold storeInDict newKeyGuard;refine af (aq (af ?_));unfold nsSet;refine af (af (wpAny_askSetting (aq (af (wpAny_mkText (af (wpAny_loadPart hd ?_)))))));dsimp only
 have c:(!es.toArray.any (·.key.isStr name)&&es.toArray.any (·.refKey))=false:=by
  have:es.toArray.any (·.refKey)=false:=by rw[<-Array.any_toList];exact hr
  rw[this,Bool.and_false]
 rw[aRefKeyMayBeTheName_at,c];refine wpAny_updatePart hd ?_;have e1:=g9 (Obj.putName name (PyData.keyHash wd.params name) (.str name s.toks) v) hd (by rw[putName_dict];rfl);rw[putName_dict] at e1;refine af (wpAny_lookBehind e1 (pastItsLine_dict (by have:=Mr name (PyData.keyHash wd.params name) (.str name s.toks) v es;rw[ie,sizeLine_eq];lia)) ?_);exact aq (k _ _ (λb hb=>ia _ _ (gz hb)) (by simp) e1)
end
end
section
open PySem.Builtin PySem.Builtin.ObjectAttr
variable{c:Fx}{l:Lv}{P:PH}{s:Sh}{A:Around}{E:VS}{Q:Va->PH->Prop}
theorem CU{e:Ad}{x:Nat}{v:Va}{name:Str}{Q':Unit->Sh->Prop}(Ex:r8 K)(S:St c l P s)(O:bM c)(hP:P e=some (.raw 785))(hf:cT x=true)(hx:x<58)(hn:name=nm x)
  (hQ:∀ s',St c l (upd P e (.kF 785 [(x,ab v)])) s'->Q' ⟨⟩ s'):wpAny (MM wd) A (setAttr (.ref e) name v) Q' E s:=by
 subst hn;obtain⟨m,G,D,S⟩:=S;obtain⟨hb,t,he⟩:=S.sat.rel e _ hP;have X:=O.X.keeps S.sat.stay;have I:InstAt s.heap e ⟨.ref 785,none,fK t,#[]⟩ 785 none:=⟨he,rfl,rfl,trivial⟩
 have hel:e<s.heap.objs.size:=fy he;refine set_plain X I Ex.sa (Em (s:={ s with toks:=s.toks+1 }) Ex X I (Ex.fl x hf) ?_);obtain⟨cd,hc,_,hd⟩:=Ex.cls;refine af (aq (af (af (wpAny_loadPart he (af (looks_clsIn X hc _ _ _ _ (λj j e=>e) ?_))))));rw[hd];refine af (wpAny_alloc (af (wpAny_update (ek _ he) (aq ?_))));have e1:((s.heap.push { cls:=.type "dict",data:=.dict #[] }).update e λo=>{ o with dict:=some s.heap.objs.size }).get? s.heap.objs.size=some (dictOf [] 0):=(ia _ _ (gq hel)).trans (fj _ rfl);have e2:((s.heap.push { cls:=.type "dict",data:=.dict #[] }).update e λo=>{ o with dict:=some s.heap.objs.size }).get? e=some ⟨.ref 785,some s.heap.objs.size,fK t,#[]⟩:=g9 _ (ek _ he) rfl;refine A5 (s:={ s with toks:=s.toks+1 }) e1 rfl () λh' t' k1 k2 k3=>hQ _ ?_;obtain⟨z1,z2⟩:=S.sat.lt (f7 s.heap.objs.size);have kb:∀ b o,b≠e->s.heap.get? b=some o->h'.get? b=some o:=λb o CF q=>by rw[k1 b (gq (fy q))];exact(ia _ _ (gz CF)).trans (ek _ q)
 refine⟨m,G,_,S.moved (S.sat.Rn (d:=s.heap.objs.size) (.iA S.sat.stay kb hb) hP rfl z1 z2 ⟨t,?_,_,_,k3,?_⟩ rfl) rfl rfl⟩
 ·rw[k1 e (gq hel)];exact e2
 ·exact gQ.put .nil hx _ _ _
theorem Bk{e:Ad}{x:Nat}{v:Va}{name:Str}{fs:List (Nat × Va)}{Q':Unit->Sh->Prop}(Ex:r8 K)(S:St c l P s)(O:bM c)(hP:P e=some (.kF 785 fs))(hf:cT x=true)(hx:x<58)(hz:fs.length<900)(hn:name=nm x)
  (hQ:∀ s',St c l (upd P e (.kF 785 (eN x (ab v) fs))) s'->Q' ⟨⟩ s'):wpAny (MM wd) A (setAttr (.ref e) name v) Q' E s:=by
 subst hn;obtain⟨m,G,D,S⟩:=S;obtain⟨hb,t,he,es,n,hd,hr⟩:=S.sat.rel e _ hP;have X:=O.X.keeps S.sat.stay;have I:InstAt s.heap e ⟨.ref 785,some (D e),fK t,#[]⟩ 785 (some (dictOf es n)):=⟨he,rfl,rfl,hd⟩
 refine set_plain X I Ex.sa (Em (s:={ s with toks:=s.toks+1 }) Ex X I (Ex.fl x hf) ?_);obtain⟨cd,hc,_,hcd⟩:=Ex.cls;refine af (aq (af (af (wpAny_loadPart he (af (looks_clsIn X hc _ _ _ _ (λj j e=>e) ?_))))));rw[hcd];refine aq (a:=some (D e)) ?_;refine A5 (s:={ s with toks:=s.toks+1 }) hd hr.noRef (by rw[hr.len];exact ja hz) λh' t' k1 k2 k3=>hQ _ ?_;have hne:e≠D e:=λz=>by have:=S.sat.dn e _ hP rfl;rw[<-z,hP] at this;cases this
 refine⟨m,G,D,S.moved (S.sat.JT (.iA S.sat.stay (λb o CF q=>(k1 b CF).trans q) (S.sat.dle e _ hP rfl)) hP rfl ⟨t,?_,_,_,k3,hr.put hx _ _ v⟩ rfl) rfl rfl⟩;rw[k1 e hne];exact he
theorem Bj{e:Ad}{x:Nat}{v:Va}{name:Str}{fs:List (Nat × Va)}(Ex:r8 K)(S:St c l P s)(O:bM c)(hP:P e=some (.exc 785 fs))(hf:cT x=true)(hx:x<58)(hn:name=nm x)(hg:eH x fs=some v)(hh:handedIn v=true)(hQ:Q v P):
  wpAny (MM wd) A (getAttr (.ref e) name true) (Ok c l Q) E s:=by
 subst hn;obtain⟨m,G,D,S⟩:=S;obtain⟨hb,vs,sl,he,es,n,hd,hr⟩:=S.sat.rel e _ hP;have X:=O.X.keeps S.sat.stay;have I:InstAt s.heap e ⟨.ref 785,some (D e),.fields vs,sl⟩ 785 (some (dictOf es n)):=⟨he,rfl,rfl,hd⟩
 obtain⟨r,hl,hv⟩:=hr.get hx;rw[hg] at hv;cases r with
 | none=>cases hv
 | some v'=>
  simp only[i7,je] at hv;have hf':findObj K 785 (some (dictOf es n)) (nm x)=some (.value v'):=findObj_own (by obtain⟨cd,hc,_,hd⟩:=Ex.cls;unfold hasDictIn;rw[hc];exact hd) (Ex.fl x hf) rfl hl;have hh':handedIn v'=true:=by rw[<-xV,hv];exact hh
  have done:∀ t',Ok c l Q v' { s with toks:=t' }:=λt'=>⟨P,⟨m,G,D,S.moved S.sat rfl rfl⟩,by rw[hv];exact hQ⟩
  clear S hv hQ hP hb hr;obtain⟨hp,g,dr,tk,os⟩:=s;have L0:=I.type (M:=MM wd);have L1:=looks_findIn (M:=MM wd) X Ex.ga;have L2:=looks_findIn (M:=MM wd) X Ex.gt;have L3:=looks_find (M:=MM wd) X I hf';have sub:Looks (MM wd) hp (isInstance (.ref e) (.type "BaseException")) true:=I.type.andThen (Ed (s:=⟨hp,g,dr,tk,os⟩) Ex X ());have f3:=PySem.F.attr_ValueError.ga.bind (.ref e);unfold getAttr getAttrBy;refine af (wpAny_mkText (ay (af (L0.at (af (L1.at ?_))))));show wpAny _ _ (getAttrByItsOwn _ _ _ _ _ _) _ _ _;unfold getAttrByItsOwn;refine af (L2.at ?_);refine af (wpAny_attempt (ay ?_));show wpAny _ _ (boundAndCalled _ _ _) _ _ _;unfold boundAndCalled;rw[f3];refine af (aq ?_);refine wpAny_call (codeAny_call_builtin PySem.F.attr_ValueError.ga.plain PySem.F.entry_bexc_ga (@check_slot (MM wd) _ _ _ "BaseException.__getattribute__" "BaseException" "__getattribute__" (.ref e) [.str (nm x) tk] [] _ ⋯ ⋯ sub (PySem.F.args_bexc_ga (.ref e) (.str (nm x) tk)) ?_));unfold Builtin.«object.__getattribute__»;refine af (aq (af (aq (af (L0.at (af (L3.at ?_)))))));refine aq ?_;show wpAny _ _ (handedOut v') _ _ _;rw[handedOut_of hh'];exact aq (done _)
end
section
open PySem.Builtin
noncomputable abbrev kX:List Va:=[.ref 765,.type "ValueError",.type "Exception",.type "BaseException",.type "object"]
noncomputable abbrev KC:Obj:=excClassObj "Raised" "Raised" 785 784 [.ref 765] kX true [] [] false none none (some (.ref 769)) none (some (.str "Raised" 1328)) (some (.str "Raised" 1336)) (some (.bool true)) "ValueError.__new__"
def fH(h:Heap):Prop:=h.get? 785=some KC
theorem fH.keeps{h h':Heap}(x:fH h)(k:gU h h'):fH h':=k _ _ x
variable{M:Model}{A:Around}{E:VS}{h:Heap}{g:Array GenState}{d:Drawn}{t:Nat}{os:OsState}
theorem yH{rest:List Va}{Q:Unit->Sh->Prop}(hC:fH h)(hq:Q ⟨⟩ ⟨h,g,d,t,os⟩):wpAny M A (checkBuiltinCall "ValueError.__new__" ⟨.ref 785::rest,[]⟩) Q E ⟨h,g,d,t,os⟩:=by
 have hC:h.get? 785=some KC:=hC;have Fn:=jf;have hcont:(Value.ref 785::kX).contains (.type "ValueError")=true:=by decide
 have hstar:=Fn.noStar;have h1:=Fn.newKind;have h2:=Fn.newSplit;have h3:=Fn.newRow;clear Fn;delta checkBuiltinCall;generalize builtinKind "ValueError.__new__"=k1 at h1 ⊢;generalize splitId "ValueError.__new__"=k2 at h2 ⊢;generalize Manifest.signature? "ValueError.__new__"=k3 at h3 ⊢;subst h3 h1 h2;dsimp only
 repeat (first|refine bh hC ?_|(refine b8 hC ?_;rw[hcont])|refine wpAny_staticBase_exc hC ?_|refine wpAny_madeBy_exc hC ?_|simp only[bne_self_eq_false,Bool.false_eq_true,if_false]|wp_step)
 exact hq
variable{R:Result->Sh->Prop}
theorem AD{rest:List Va}(hC:fH h)
  (hq:R (.ok (.ret (.ref (h.objs.size+1)))) ⟨(h.push { cls:=.type "tuple",data:=.seq rest.toArray }).push { cls:=.ref 785,data:=.fields #[.ref h.objs.size,.none,.none,.none,.bool false,.none] },g,d,t,os⟩) (hrest:rest.length<=sizeLine):
  codeAny (model pw wd) A (.builtin "ValueError.__new__" ⟨.ref 785::rest,[]⟩) R ⟨h,g,d,t,os⟩:=by
 have hC:h.get? 785=some KC:=hC;have Fn:=jf;have hends:=Fn.ends;have hcB:(Value.ref 785::kX).contains (.type "ValueError")=true:=by decide
 have hcA:(Value.ref 785::kX).contains (.type "AttributeError")=false:=by decide
 have hcN:(Value.ref 785::kX).contains (.type "NameError")=false:=by decide
 refine codeAny_builtinAt Fn.entry ?_;unfold Builtin.«BaseException.__new__»;refine PySem.wpAt_bind ?_;show PySem.wpAt _ _ _ (stack>>=_) _ _ _;refine PySem.wpAt_bind (PySem.wpAt_stack λp below=>PySem.wpAt_of_wpAny ?_)
 wp_walk
 refine PySem.wpAt_of_wpAny ?_;rw[Fn.owner]
 repeat (first|with_reducible refine wpAny_madeHere_exc Fn.canon hC ?_|with_reducible refine bh hC ?_|(with_reducible refine b8 hC ?_;first|rw[hcB]|rw[hcA]|rw[hcN])|wp_step)
 show R _ _;rw[jc];exact hq
theorem zR{K:Frag}{rest:List Va}{f:Ad}{Q:Fin->Sh->Prop}(X:K.In h)(hi:findIn K (.ref 785) "__init__"=some (some (.ref f)))(hf:typeIn K (.ref f)=some (.type "function"))(hC:fH h)(hrest:rest.length<=sizeLine)
  (hq:∀ h',gU h h'->h.objs.size+2=h'.objs.size->h'.get? (h.objs.size+1)=some (⟨.ref 785,none,.fields #[.ref h.objs.size,.none,.none,.none,.bool false,.none],#[]⟩:Obj)->wpAny (model pw wd) A (call (.ref f) (.ref (h.objs.size+1)::rest)) (λr s'=>r=.none/\Q (.done (.ret (.ref (h.objs.size+1)))) s') E ⟨h',g,d,t,os⟩):
  wpAny (model pw wd) A (Builtin.«type.__call__» ⟨.ref 785::rest,[]⟩) Q E ⟨h,g,d,t,os⟩:=by
 have hC':h.get? 785=some KC:=hC;have Fn:=jf
 repeat (first|with_reducible refine bh hC' ?_|with_reducible refine wpAny_madeBy_exc hC' ?_|wp_step)
 refine codeAny_call_builtin_code (Code.quiet_builtin _ Fn.quiet) (yH hC ?_);refine AD hC ?_ hrest;show wpAny _ _ _ _ _ _;have kk:gU h ((h.push { cls:=.type "tuple",data:=.seq rest.toArray }).push { cls:=.ref 785,data:=.fields #[.ref h.objs.size,.none,.none,.none,.bool false,.none] }):=λb o e=>ek _ (ek _ e);have Rx:=kk _ _ hC'
 have hget:((h.push { cls:=.type "tuple",data:=.seq rest.toArray }).push { cls:=.ref 785,data:=.fields #[.ref h.objs.size,.none,.none,.none,.bool false,.none] }).get? (h.objs.size+1)=some
   {cls:=.ref 785,data:=.fields #[.ref h.objs.size,.none,.none,.none,.bool false,.none] }:=by heap_get
 have hcC:(Value.ref 785::kX).contains (.ref 785)=true:=by decide
 have KN:=X.keeps kk;unfold isInstance
 repeat (first|with_reducible refine bh hget ?_|(with_reducible refine b8 Rx ?_;rw[hcC])|wp_step)
 show wpAny _ _ (typeLookup (.ref 785) _) _ _ _;refine(looks_findIn KN hi).at ?_;refine ay (af ((bind_fn KN _ hf).at ?_));refine af (ak (hq _ kk (by simp only[jc]) hget) (λr s' hr=>?_) λq q x=>x);obtain⟨rfl,hQ⟩:=hr
 wp_walk
 exact hQ
theorem K7{K:Frag}{rest:List Va}{f:Ad}{Q:VS}(X:K.In h)(hi:findIn K (.ref 785) "__init__"=some (some (.ref f)))(hf:typeIn K (.ref f)=some (.type "function"))(hC:fH h)(hrest:rest.length<=sizeLine)
  (hq:∀ h',gU h h'->h.objs.size+2=h'.objs.size->h'.get? (h.objs.size+1)=some (⟨.ref 785,none,.fields #[.ref h.objs.size,.none,.none,.none,.bool false,.none],#[]⟩:Obj)->wpAny (model pw wd) (A.under (.builtin "type.__call__" ⟨.ref 785::rest,[]⟩)) (call (.ref f) (.ref (h.objs.size+1)::rest)) (λr s'=>r=.none/\Q (.ref (h.objs.size+1)) s') E ⟨h',g,d,t,os⟩):
  wpAny (model pw wd) A (call (.ref 785) rest) Q E ⟨h,g,d,t,os⟩:=by
 have hC':h.get? 785=some KC:=hC;have f1:=tc_lookup;have f2:=tc_bind (.ref 785);have hT:(⟨h,g,d,t,os⟩:Sh).TypeIs (.ref 785) "type":=⟨_,hC',rfl⟩
 refine wpAny_call (codeAny_of_tree ?_);show wpAny _ _ (callAny (.ref 785) _) _ _ _
 repeat (any_goals (first|assumption|with_reducible refine bh hC' ?_|wp_step))
 refine⟨rfl,?_⟩;exact codeAny_call_builtin_at (Code.quiet_builtin _ ⋯) entry_typeCall (wpAny_check_type_call_sub hC' (zR X hi hf hC hrest hq))
end
def Calls(n:Nat)(f:Ad)(vs:List Va)(P:PH)(X:Ad->PH->Prop)(Q:Va->PH->Prop):Prop:=∀ c l s args,bM c->bP n c.A->St c l P s->args.map ab=vs->codeAny (MM wd) c.A (.call (.ref f) ⟨args,[]⟩) (Dq c l X Q) s
noncomputable def rd(P:PH)(a:Ad):Op PO:=match P a with
 | some o=>some o
 | none=>nY a
def iE(P:PH):Prop:=∀ a o,P a=some o->nY a=none
noncomputable def aR(k:Str):List (Str × Va)->Op Va
 | []=>none
 | e::r=>if e.1=k then some e.2 else aR k r
noncomputable def cU(k:Str)(v:Va):List (Str × Va)->List (Str × Va)
 | []=>[(k,v)]
 | e::r=>if e.1=k then(e.1,v)::r else e::cU k v r
theorem tP{k:Str}{v:Va}{e:Str × Va}{r:List (Str × Va)}:cU k v (e::r)=if e.1=k then(e.1,v)::r else e::cU k v r:=rfl
theorem LA{k:Str}{e:Str × Va}{r:List (Str × Va)}:aR k (e::r)=if e.1=k then some e.2 else aR k r:=rfl
noncomputable def vd(k:Str)(l:List (Str × Va)):List (Str × Va):=l.filter λe=>decide (e.1≠k)
noncomputable def U0(a:Int):Va->Op Bool
 | .int b _=>some (decide (a=b))
 | .none=>some false
 | .str ..=>some false
 | _=>none
noncomputable def U1(a:Str):Va->Op Bool
 | .str b _=>some (decide (a=b))
 | .none=>some false
 | .int ..=>some false
 | _=>none
noncomputable def eqB(a:Bool):Va->Op Bool
 | .bool b=>some (a==b)
 | _=>none
noncomputable def Ub:Va->Op Bool
 | .none=>some true
 | .int ..=>some false
 | .str ..=>some false
 | _=>none
noncomputable def eqv(a b:Va):Op Bool:=match a with
 | .int a _=>U0 a b
 | .str a _=>U1 a b
 | .bool a=>eqB a b
 | .none=>Ub b
 | _=>none
noncomputable def Rj(a b:Va):Op Bool:=match a with
 | .int a _=>(match b with
  | .int b _=>some (decide (a=b))
  | _=>none)
 | .str a _=>(match b with
  | .str b _=>some (decide (a=b))
  | _=>none)
 | .bool a=>eqB a b
 | _=>none
noncomputable def o8:List Va->List Va->Op Bool
 | [],[]=>some true
 | a::as,b::bs=>(Rj a b).bind λx=>(o8 as bs).map (x&&·)
 | _,_=>none
noncomputable def PC(vs:List Va)(o:Op PO):Op Bool:=match o with
 | some (.list _ us)=>if vs.length=us.length then(o8 vs us).map (!·) else some true
 | _=>none
noncomputable def PE(vs:List Va)(o:Op PO):Op Bool:=match o with
 | some (.tup us)=>(o8 vs us).map (!·)
 | _=>none
noncomputable def Ji(o:Op PO):Op Bool:=match o with
 | some (.tup _)=>some true
 | _=>none
noncomputable def PD(o p:Op PO):Op Bool:=match o with
 | some (.list _ vs)=>PC vs p
 | some (.tup vs)=>PE vs p
 | _=>none
noncomputable def V3(P:PH)(o:Op PO)(b:Va):Op Bool:=match b with
 | .ref y=>PD o (P y)
 | .none=>Ji o
 | _=>none
noncomputable def neN(P:PH)(b:Va):Op Bool:=match b with
 | .ref x=>Ji (P x)
 | b=>(Ub b).map (!·)
noncomputable def Ve(P:PH)(a b:Va):Op Bool:=match a with
 | .ref x=>V3 P (P x) b
 | .none=>neN P b
 | a=>(eqv a b).map (!·)
noncomputable def gB(k:Str):List Va->Op Bool
 | []=>some false
 | .str x _::r=>(gB k r).map (decide (x=k)||·)
 | _=>none
noncomputable def inR(x:Str)(o:Op PO):Op Bool:=match o with
 | some (.dict _ kvs)=>some (aR x kvs).isSome
 | some (.list _ vs)=>gB x vs
 | some (.tup vs)=>gB x vs
 | _=>none
noncomputable def VT(x:Str)(P:PH)(b:Va):Op Bool:=match b with
 | .ref d=>inR x (rd P d)
 | .str y _=>if y=("ABCDEFGHIJKLMNOPQRSTUVWXYZ":Str)/\(x=("K":Str)\/x=("L":Str)) then some true else none
 | _=>none
noncomputable def QG(P:PH)(k b:Va):Op Bool:=match k with
 | .str x _=>VT x P b
 | _=>none
noncomputable def eX:List (Ad × List Ad):=[(40,[40]),(62,[62,40]),(82,[82,40]),(181,[181,40]),(228,[228,40]),(256,[256]),(1055,[1055])]
noncomputable def lJ(C B:Ad):Bool:=match eX.lookup C with
 | some l=>l.contains B
 | none=>false
noncomputable def DJ(B:Ad):Bool:=[40,62,82,120,140,161,181,201,228].contains B
noncomputable def big:Nat:=100000
abbrev VQ:=Va->PH->Prop
def xG(r:Op Bool)(P:PH)(Q:VQ):Prop:=match r with
 | some b=>Q (.bool b) P
 | none=>False
def cG(P:PH)(o:PO)(Q:VQ):Prop:=∀ a,P a=none->Q (.ref a) (upd P a o)
def iD(a:Ad)(x:Nat)(P:PH)(Q:VQ):Prop:=match P a with
 | some (.inst C fs)=>gS C x=true/\(match eH x fs with
  | some v=>handedIn v=true/\Q v P
  | none=>False)
 | some (.exc C fs)=>(C=785/\cT x=true)/\(match eH x fs with
  | some v=>handedIn v=true/\Q v P
  | none=>False)
 | _=>False
def wk(a:Ad)(x:Nat)(v:Va)(P:PH)(Q:PH->Prop):Prop:=match P a with
 | some (.inst C fs)=>gS C x=true/\fs.length<900/\Q (upd P a (.inst C (eN x v fs)))
 | some (.raw C)=>(C=785/\cT x=true)/\Q (upd P a (.kF C [(x,v)]))
 | some (.kF C fs)=>(C=785/\cT x=true/\fs.length<900)/\Q (upd P a (.kF C (eN x v fs)))
 | _=>False
noncomputable def lA:Va->Bool
 | .builtin _=>false
 | _=>true
noncomputable def isNone:Va->Bool
 | .none=>true
 | _=>false
noncomputable def zM:List Va->Op Int
 | []=>some 0
 | .int i _::r=>(zM r).map (i+·)
 | _=>none
def Bg(v:Va)(F:Int->Prop):Prop:=match v with
 | .int i _=>F i
 | _=>False
def KG(v:Va)(F:Str->Prop):Prop:=match v with
 | .str x _=>F x
 | _=>False
def wh(v:Va)(F:Ad->Prop):Prop:=match v with
 | .ref a=>F a
 | _=>False
def Vi(v:Va)(F:Bool->Prop):Prop:=match v with
 | .bool b=>F b
 | _=>False
def UD(v:Va)(F:Prop):Prop:=match v with
 | .none=>F
 | _=>False
def QE(v:Va)(f:Int->Prop)(g:Str->Prop)(h:Ad->Prop):Prop:=match v with
 | .int i _=>f i
 | .str x _=>g x
 | .ref a=>h a
 | _=>False
def T3(v:Va)(n:Prop)(b i s:Prop)(h:Ad->Prop):Prop:=match v with
 | .none=>n
 | .bool _=>b
 | .int ..=>i
 | .str ..=>s
 | .ref a=>h a
 | _=>False
def zu(vs:List Va)(F:Va->List Va->Prop):Prop:=match vs with
 | a::r=>F a r
 | []=>False
def UB(vs:List Va)(F:Prop):Prop:=match vs with
 | []=>F
 | _::_=>False
def CS(vs:List Va)(F:Va->Prop):Prop:=zu vs λa r=>UB r (F a)
def tX(vs:List Va)(F:Va->Va->Prop):Prop:=zu vs λa r=>CS r (F a)
def Vh(vs:List Va)(F:Va->Va->Va->Prop):Prop:=zu vs λa r=>tX r (F a)
def BZ{α:Type}(o:Op α)(F:α->Prop):Prop:=match o with
 | some x=>F x
 | none=>False
def CT(o:Op PO)(F:Nat × Nat->List Va->Prop):Prop:=match o with
 | some (.list t vs)=>F t vs
 | _=>False
def Ek(o:Op PO)(F:List (Str × Va)->Prop):Prop:=match o with
 | some (.dict _ kvs)=>F kvs
 | _=>False
def UC(o:Op PO)(F:Ad->Prop):Prop:=match o with
 | some (.inst C _)=>F C
 | _=>False
def Vk(o:Op PO)(F:Ad->Prop):Prop:=match o with
 | some (.raw C)=>F C
 | _=>False
def KY(o:Op PO)(F G:List Va->Prop):Prop:=match o with
 | some (.list _ vs)=>F vs
 | some (.tup vs)=>G vs
 | _=>False
def Nf(o:Op PO)(F G:List Va->Prop)(H:List (Str × Va)->Prop):Prop:=match o with
 | some (.list _ vs)=>F vs
 | some (.tup vs)=>G vs
 | some (.dict _ kvs)=>H kvs
 | _=>False
def pO(o i v:Va)(P:PH)(Q:PH->Prop):Prop:=wh o λa=>QE i (λk=>CT (P a) λt vs=>(0<=k/\k.toNat<vs.length/\vs.length<big)/\Q (upd P a (.list t (vs.set k.toNat v))))
 (λk=>Ek (P a) λkvs=>kvs.length<big/\Q (upd P a (.dict (0,0) (cU k v kvs)))) λq=>False
def bD(p:Prim)(vs:List Va)(P:PH)(Q:VQ):Prop:=match p with
 | .is=>tX vs λa b=>UD b (lA a=true/\Q (.bool (isNone a)) P)
 | .dU=>tX vs λa b=>UD b (lA a=true/\Q (.bool (!isNone a)) P)
 | .eq=>tX vs λa b=>xG (eqv a b) P Q
 | .ne=>tX vs λa b=>xG (Ve P a b) P Q
 | .lt=>tX vs λa b=>Bg a λa=>Bg b λb=>Q (.bool (decide (a<b))) P
 | .gt=>tX vs λa b=>Bg a λa=>Bg b λb=>Q (.bool (decide (b<a))) P
 | .isin=>tX vs λa b=>iE P->xG (QG P a b) P Q
 | .oN=>tX vs λa b=>iE P->xG ((QG P a b).map (!·)) P Q
 | .add=>tX vs λa b=>QE a (λa=>Bg b λb=>Q (.int (a+b) 0) P) (λa=>KG b λb=>(a.length<big/\b.length<big)/\Q (.str (a++b) 0) P)
  λa=>wh b λb=>CT (P a) λq vs=>CT (P b) λq us=>(vs.length<big/\us.length<big)/\cG P (.list (0,0) (vs++us)) Q
 | .mul=>tX vs λa b=>Bg a λa=>Bg b λb=>b.natAbs<2^60/\Q (.int (a*b) 0) P
 | .mod=>tX vs λa b=>Bg a λa=>Bg b λb=>0<b/\Q (.int (a%b) 0) P
 | .fdiv=>tX vs λa b=>Bg a λa=>Bg b λb=>(0<b/\b<2^60)/\Q (.int (a/b) 0) P
 | .pow=>tX vs λa b=>Bg a λa=>Bg b λb=>(a=10/\b=30)/\Q (.int (10^30) 0) P
 | .tup=>vs.length<big/\cG P (.tup vs) Q
 | .list=>vs.length<big/\cG P (.list (0,0) vs) Q
 | .iM=>UB vs (cG P (.dict (0,0) []) Q)
 | .item=>tX vs λo i=>QE o (λq=>False) (λx=>Bg i λi=>(i=0/\(x="K"\/x="L"))/\Q (.str x 0) P)
  λa=>QE i (λi=>KY (P a) (λvs=>0<=i/\i<2^62/\BZ vs[i.toNat]? λv=>Q v P) λvs=>0<=i/\i<2^62/\BZ vs[i.toNat]? λv=>Q v P)
   (λk=>iE P->Ek (rd P a) λkvs=>BZ (aR k kvs) λv=>Q v P) λq=>False
 | .rev=>CS vs λa=>wh a λa=>CT (P a) λq vs=>vs.length<big/\cG P (.list (0,0) vs.reverse) Q
 | .upto=>tX vs λa k=>wh a λa=>Bg k λk=>iE P->CT (rd P a) λq vs=>(vs.length<big/\0<=k/\k<big)/\cG P (.list (0,0) (vs.take k.toNat)) Q
 | .AO=>CS vs λa=>QE a (λq=>False) (λx=>(x="K"\/x="L")/\Q (.str "" 0) P) λa=>CT (P a) λq vs=>vs.length<big/\cG P (.list (0,0) (vs.drop 1)) Q
 | .len=>CS vs λa=>wh a λa=>iE P->CT (rd P a) λq vs=>vs.length<big/\Q (.int vs.length 0) P
 | .abs=>CS vs λa=>Bg a λa=>Q (.int a.natAbs 0) P
 | .int=>CS vs λa=>Vi a λb=>Q (.int (if b then 1 else 0) 0) P
 | .sum=>CS vs λa=>wh a λa=>CT (P a) λq vs=>vs.length<big/\BZ (zM vs) λi=>Q (.int i 0) P
 | .jD=>CS vs λa=>wh a λa=>Nf (P a) (λvs=>vs.length<big/\cG P (.list (0,0) vs) Q) (λvs=>vs.length<big/\cG P (.list (0,0) vs) Q)
  λkvs=>kvs.length<big/\cG P (.list (0,0) (kvs.map λe=>.str e.1 0)) Q
 | .o5=>CS vs λa=>wh a λa=>Ek (P a) λkvs=>kvs.length<big/\cG P (.dict (0,0) kvs) Q
 | .iV=>CS vs λa=>wh a λa=>Ek (P a) λkvs=>kvs.length<big/\cG P (.dict (0,0) kvs) Q
 | .jM t=>CS vs λv=>T3 v (Q (.bool false) P) (Q (.bool (t=="bool"||t=="int")) P) (Q (.bool (t=="int")) P) (Q (.bool (t=="str")) P) λa=>UC (P a) λC=>(eX.lookup C).isSome=true/\Q (.bool false) P
 | .bZ B=>CS vs λv=>DJ B=true/\T3 v (Q (.bool false) P) (Q (.bool false) P) (Q (.bool false) P) (Q (.bool false) P) λa=>UC (P a) λC=>(eX.lookup C).isSome=true/\Q (.bool (lJ C B)) P
 | .upper=>CS vs λa=>KG a λx=>x="abcdefghijklmnopqrstuvwxyz"/\Q (.str "ABCDEFGHIJKLMNOPQRSTUVWXYZ" 0) P
 | .split=>tX vs λa b=>KG a λx=>KG b λy=>(y="::"/\(x="K"\/x="L"))/\cG P (.list (0,0) [.str x 0]) Q
 | .ry=>tX vs λa k=>wh a λa=>KG k λk=>Ek (P a) λkvs=>Q ((aR k kvs).getD .none) P
 | .uU=>Vh vs λa k d=>wh a λa=>KG k λk=>iE P->Ek (rd P a) λkvs=>Q ((aR k kvs).getD d) P
 | .pop=>tX vs λa k=>wh a λa=>KG k λk=>Ek (P a) λkvs=>kvs.length<big/\BZ (aR k kvs) λv=>Q v (upd P a (.dict (0,0) (vd k kvs)))
 | .append=>tX vs λa v=>wh a λa=>CT (P a) λt vs=>vs.length<big/\Q .none (upd P a (.list t (vs++[v])))
 | .BO=>tX vs λa q=>wh a λa=>Vk (P a) λC=>C=785/\Q .none P
 | .extend=>tX vs λa b=>wh a λa=>wh b λb=>CT (P a) λt vs=>CT (P b) λq us=>(a≠b/\vs.length<big/\us.length<big)/\Q .none (upd P a (.list t (vs++us)))
 | .enum=>False
 | .range=>False
def O8(p:Prim)(v:Va)(P:PH):Prop:=match p with
 | .ry=>wh v λa=>Ek (P a) λq=>True
 | .pop=>wh v λa=>Ek (P a) λq=>True
 | .uU=>wh v λa=>iE P->Ek (rd P a) λq=>True
 | .append=>wh v λa=>CT (P a) λq q=>True
 | .extend=>wh v λa=>CT (P a) λq q=>True
 | .upper=>KG v λq=>True
 | .split=>KG v λq=>True
 | _=>False
theorem vJ{vs:List Va}{F:Va->List Va->Prop}(h:zu (vs.map ab) F):∃ v r,vs=v::r/\F (ab v) (r.map ab):=by
 rcases vs with _|⟨v,r⟩
 ·exact ck h
 ·exact⟨v,r,rfl,h⟩
theorem Ei{vs:List Va}{F:Prop}(h:UB (vs.map ab) F):vs=[]/\F:=by
 rcases vs with _|⟨v,r⟩
 ·exact⟨rfl,h⟩
 ·exact ck h
theorem dM{a:Va}{F:Int->Prop}(h:Bg (ab a) F):∃ i t,a=.int i t/\F i:=by cases a<;>first|exact ck h|exact⟨_,_,rfl,h⟩
theorem iQ{a:Va}{F:Str->Prop}(h:KG (ab a) F):∃ i t,a=.str i t/\F i:=by cases a<;>first|exact ck h|exact⟨_,_,rfl,h⟩
theorem cD{a:Va}{F:Ad->Prop}(h:wh (ab a) F):∃ i,a=.ref i/\F i:=by cases a<;>first|exact ck h|exact⟨_,rfl,h⟩
theorem L6{a:Va}{F:Bool->Prop}(h:Vi (ab a) F):∃ i,a=.bool i/\F i:=by cases a<;>first|exact ck h|exact⟨_,rfl,h⟩
theorem El{a:Va}{F:Prop}(h:UD (ab a) F):a=.none/\F:=by cases a<;>first|exact ck h|exact⟨rfl,h⟩
theorem pV{a:Va}{f:Int->Prop}{g:Str->Prop}{k:Ad->Prop}(h:QE (ab a) f g k):(∃ i t,a=.int i t/\f i)\/(∃ x t,a=.str x t/\g x)\/∃ i,a=.ref i/\k i:=by cases a<;>first|exact ck h|exact .inl ⟨_,_,rfl,h⟩|exact .inr (.inl ⟨_,_,rfl,h⟩)|exact .inr (.inr ⟨_,rfl,h⟩)
theorem DF{a:Va}{n b i s:Prop}{k:Ad->Prop}(h:T3 (ab a) n b i s k):(a=.none/\n)\/(∃ x,a=.bool x/\b)\/(∃ x t,a=.int x t/\i)\/(∃ x t,a=.str x t/\s)\/∃ x,a=.ref x/\k x:=by cases a<;>first|exact ck h|exact .inl ⟨rfl,h⟩|exact .inr (.inl ⟨_,rfl,h⟩)|exact .inr (.inr (.inl ⟨_,_,rfl,h⟩))|exact .inr (.inr (.inr (.inl ⟨_,_,rfl,h⟩)))|exact .inr (.inr (.inr (.inr ⟨_,rfl,h⟩)))
theorem qw{α:Type}{o:Op α}{F:α->Prop}(h:BZ o F):∃ x,o=some x/\F x:=by cases o<;>first|exact ck h|exact⟨_,rfl,h⟩
theorem fD{o:Op PO}{F:Nat × Nat->List Va->Prop}(h:CT o F):∃ t vs,o=some (.list t vs)/\F t vs:=by
 obtain _|o:=o
 ·exact ck h
 ·cases o<;>first|exact ck h|exact⟨_,_,rfl,h⟩
theorem iP{o:Op PO}{F:List (Str × Va)->Prop}(h:Ek o F):∃ t vs,o=some (.dict t vs)/\F vs:=by
 obtain _|o:=o
 ·exact ck h
 ·cases o<;>first|exact ck h|exact⟨_,_,rfl,h⟩
theorem Ej{o:Op PO}{F:Ad->Prop}(h:UC o F):∃ C fs,o=some (.inst C fs)/\F C:=by
 obtain _|o:=o
 ·exact ck h
 ·cases o<;>first|exact ck h|exact⟨_,_,rfl,h⟩
theorem L8{o:Op PO}{F:Ad->Prop}(h:Vk o F):∃ C,o=some (.raw C)/\F C:=by
 obtain _|o:=o
 ·exact ck h
 ·cases o<;>first|exact ck h|exact⟨_,rfl,h⟩
theorem EN{o:Op PO}{F G:List Va->Prop}{H:List (Str × Va)->Prop}(h:Nf o F G H):(∃ t vs,o=some (.list t vs)/\F vs)\/(∃ vs,o=some (.tup vs)/\G vs)\/∃ t vs,o=some (.dict t vs)/\H vs:=by
 obtain _|o:=o
 ·exact ck h
 ·cases o<;>first|exact ck h|exact .inl ⟨_,_,rfl,h⟩|exact .inr (.inl ⟨_,rfl,h⟩)|exact .inr (.inr ⟨_,_,rfl,h⟩)
theorem Hw{o:Op PO}{F G:List Va->Prop}(h:KY o F G):(∃ t vs,o=some (.list t vs)/\F vs)\/∃ vs,o=some (.tup vs)/\G vs:=by
 obtain _|o:=o
 ·exact ck h
 ·cases o<;>first|exact ck h|exact .inl ⟨_,_,rfl,h⟩|exact .inr ⟨_,rfl,h⟩
section
variable(n:Nat)
abbrev XP:=Ad->PH->Prop
def oM:XP:=λq q=>False
def aV(v:Va)(t f:Prop):Prop:=match v with
 | .bool true=>t
 | .bool false=>f
 | _=>False
noncomputable def xZ(step:Va->PH->(Op Va->PH->Prop)->Prop)(guard:PH->Prop):List Va->List Va->PH->(List Va->PH->Prop)->Prop
 | [],acc,P,k=>k acc P
 | v::vs,acc,P,k=>step v P λr P'=>guard P'/\xZ step guard vs (match r with|some x=>acc++[x]|none=>acc) P' k
noncomputable def lP(caps:List (Op Nat))(l:Lv):Lv:=caps.map λo=>o.bind λi=>(l[i]?).join
noncomputable abbrev LV:=Lv
abbrev LQ:=List Va->PH->Prop
abbrev EF:=PH->XP->VQ->Prop
abbrev AF:=PH->XP->LQ->Prop
def QY(x:Nat)(Q:VQ)(v:Va)(P:PH):Prop:=match v with
 | .ref a=>iD a x P Q
 | _=>False
def Ni(f:Ad)(X:XP)(Q:VQ)(vs:List Va)(P:PH):Prop:=Calls n f vs P X Q
def Ow(f a:Ad)(X:XP)(Q:VQ)(vs:List Va)(P:PH):Prop:=Calls n f (.ref a::vs) P X Q
def RV(m:Nat)(F:AF)(X:XP)(Q:VQ)(v:Va)(P:PH):Prop:=match v with
 | .ref a=>(match P a with
  | some (.inst C fs)=>(match bO C m with
   | some f=>(match bL m with
    | some x=>eH x fs=none
    | none=>True)/\F P X (Ow n f a X Q)
   | none=>False)
  | _=>False)
 | _=>False
def Ov(as:TL)(F:AF)(X:XP)(Q:VQ)(v:Va)(P:PH):Prop:=match v with
 | .ref f=>(yv.contains f=true\/(as=.nil/\∃ k vs,P f=some (.lam k vs)))/\F P X (Ni n f X Q)
 | _=>False
def RT(a:Ad)(Q:VQ)(v:Va)(P:PH):Prop:=v=.none/\Q (.ref a) P
def NL(C:Ad)(X:XP)(Q:VQ)(vs:List Va)(P:PH):Prop:=match bO C 99,n with
 | some f,k+1=>∀ a,P a=none->Calls k f (.ref a::vs) (upd P a (.inst C [])) X (RT a Q)
 | _,_=>False
def NX(p:Prim)(Q:VQ)(vs:List Va)(P:PH):Prop:=bD p vs P Q
def Nk(v:Va)(Q:LQ)(vs:List Va)(P:PH):Prop:=Q (v::vs) P
def Rb(F:AF)(X:XP)(Q:LQ)(v:Va)(P:PH):Prop:=F P X (Nk v Q)
def VH(p:Prim)(F:AF)(X:XP)(Q:VQ)(v:Va)(P:PH):Prop:=O8 p v P/\F P X (Nk v (NX p Q))
def TQ(F:EF)(X:XP)(Q:VQ)(v:Va)(P:PH):Prop:=aV v (F P X Q) (Q (.bool false) P)
def Wb(F:EF)(X:XP)(Q:VQ)(v:Va)(P:PH):Prop:=aV v (Q (.bool true) P) (F P X Q)
def Uy(Q:VQ)(v:Va)(P:PH):Prop:=aV v (Q (.bool false) P) (Q (.bool true) P)
def VR(F G:EF)(X:XP)(Q:VQ)(v:Va)(P:PH):Prop:=aV v (F P X Q) (G P X Q)
def VX(r:Op Va->PH->Prop)(v:Va)(P:PH):Prop:=r (some v) P
def VV(F:EF)(r:Op Va->PH->Prop)(b:Va)(P:PH):Prop:=aV b (F P oM (VX r)) (r none P)
def NK(et ee:LV->EF)(k:Nat)(l:LV)(v:Va)(P:PH)(r:Op Va->PH->Prop):Prop:=et (l.set k (some v)) P oM (VV (ee (l.set k (some v))) r)
def Vl(a:Ad)(o:PO)(P:PH):Prop:=iE P->rd P a=some o
def RQ(Q:VQ)(acc:List Va)(P:PH):Prop:=cG P (.list (0,0) acc) Q
def VW(et ee:LV->EF)(k:Nat)(l:LV)(Q:VQ)(v:Va)(P:PH):Prop:=iE P->match v with
 | .ref a=>(match rd P a with
  | some (.list t vs)=>vs.length<big/\xZ (NK et ee k l) (Vl a (.list t vs)) vs [] P (RQ Q)
  | some (.tup vs)=>vs.length<big/\xZ (NK et ee k l) (Vl a (.tup vs)) vs [] P (RQ Q)
  | _=>False)
 | _=>False
def Rc(ks:List Str)(d:Ad)(Q:VQ)(vs:List Va)(P:PH):Prop:=vs.length=ks.length/\P d=some (.dict (0,0) [])/\Q (.ref d) (upd P d (.dict (0,0) (ks.zip vs)))
mutual
noncomputable def bE:T->Lv->PH->XP->VQ->Prop
 | .con v,_,P,_,Q=>Q v P
 | .loc i,l,P,_,Q=>match l[i]? with
  | some (some v)=>Q v P
  | _=>False
 | .attr o x,l,P,X,Q=>bE o l P X (QY x Q)
 | .aS o m as,l,P,X,Q=>bE o l P X (RV n m (GU as l) X Q)
 | .call f as,l,P,X,Q=>GU as l P X (Ni n f X Q)
 | .Ay f as,l,P,X,Q=>bE f l P X (Ov n as (GU as l) X Q)
 | .make C as,l,P,X,Q=>GU as l P X (NL n C X Q)
 | .prim p as,l,P,X,Q=>GU as l P X (NX p Q)
 | .bm p o as,l,P,X,Q=>bE o l P X (VH p (GU as l) X Q)
 | .and a b,l,P,X,Q=>bE a l P X (TQ (bE b l) X Q)
 | .or a b,l,P,X,Q=>bE a l P X (Wb (bE b l) X Q)
 | .not a,l,P,X,Q=>bE a l P X (Uy Q)
 | .bF c a b,l,P,X,Q=>bE c l P X (VR (bE a l) (bE b l) X Q)
 | .lc caps k it elt test,l,P,X,Q=>bE it l P X (VW (bE test) (bE elt) k (lP caps l) Q)
 | .lam k is b,l,P,_,Q=>b=y9 k/\∃ vs,is.map (λi=>(l[i]?).join)=vs.map some/\match P (dP k) with
  | some (.tab es)=>(match es.lookup k with
   | some c=>P c=some (.code k)/\cG P (.lam k (.ref c::vs)) Q
   | none=>∀ c,P c=none->c≠dP k->cG (upd (upd P (dP k) (.tab (es++[(k,c)]))) c (.code k)) (.lam k (.ref c::vs)) Q)
  | _=>False
 | .AJ ks as,l,P,X,Q=>(ks.Nodup/\0<ks.length/\ks.length<15)/\∀ d,P d=none->GU as l (upd P d (.dict (0,0) [])) X (Rc ks d Q)
 | .bad,_,_,_,_=>False
noncomputable def GU:TL->Lv->PH->XP->(List Va->PH->Prop)->Prop
 | .nil,_,P,_,Q=>Q [] P
 | .cons a r,l,P,X,Q=>bE a l P X (Rb (GU r l) X Q)
end
noncomputable def cM(step:Va->Lv->PH->(NP)->Prop)(guard:PH->Prop):List Va->Lv->PH->(NP)->Prop
 | [],l,P,k=>k l P
 | v::vs,l,P,k=>step v l P λl' P'=>guard P'/\cM step guard vs l' P' k
noncomputable def x7(step:Nat->Lv->PH->(NP)->Prop):Nat->Nat->Lv->PH->(NP)->Prop
 | _,0,l,P,k=>k l P
 | i,n+1,l,P,k=>step i l P λl' P'=>x7 step (i+1) n l' P' k
noncomputable def sE(cond:Lv->PH->VQ->Prop)(body:Lv->PH->(NP)->Prop):Nat->Lv->PH->(NP)->Prop
 | 0,_,_,_=>False
 | f+1,l,P,k=>cond l P λv P=>aV v (body l P λl' P'=>sE cond body f l' P' k) (k l P)
noncomputable def sets:List Nat->List Va->Lv->Lv
 | i::is,v::vs,l=>sets is vs (l.set i (some v))
 | _,_,l=>l
noncomputable def itemsOf:PO->Op (List Va)
 | .list _ vs=>some vs
 | .tup vs=>some vs
 | _=>none
noncomputable def kD(cs:List Bool)(i:Nat)(P:PH):PH:=if cs.getD i false then bJ P else P
noncomputable def GB(cs:List Bool)(is:List Nat)(P:PH):PH:=is.foldl (λP i=>kD cs i P) P
abbrev NQ:=LV->PH->Prop
abbrev SF:=LV->PH->XP->NQ->VQ->Prop
def Rk(l:LV)(N:NQ)(_:Va)(P:PH):Prop:=N l P
def TR(cs:List Bool)(i:Nat)(l:LV)(N:NQ)(v:Va)(P:PH):Prop:=N (l.set i (some v)) (kD cs i P)
def QW(cs:List Bool)(is:List Nat)(l:LV)(N:NQ)(v:Va)(P:PH):Prop:=match v with
 | .ref a=>(match P a with
  | some (.tup vs)=>vs.length=is.length/\N (sets is vs l) (GB cs is P)
  | _=>False)
 | _=>False
def Sx(x:Nat)(v:Va)(l:LV)(N:NQ)(u:Va)(P:PH):Prop:=match u with
 | .ref a=>wk a x v P (N l)
 | _=>False
def Sy(o:T)(x:Nat)(l:LV)(X:XP)(N:NQ)(v:Va)(P:PH):Prop:=bE n o l P X (Sx x v l N)
def SQ(u v:Va)(l:LV)(N:NQ)(i:Va)(P:PH):Prop:=pO u i v P (N l)
def SP(i:T)(v:Va)(l:LV)(X:XP)(N:NQ)(u:Va)(P:PH):Prop:=bE n i l P X (SQ u v l N)
def UI(o i:T)(l:LV)(X:XP)(N:NQ)(v:Va)(P:PH):Prop:=bE n o l P X (SP n i v l X N)
def Q0(a:Ad)(x:Nat)(old:Va)(l:LV)(N:NQ)(v:Va)(P:PH):Prop:=match old,v with
 | .int i _,.int j _=>wk a x (.int (i+j) 0) P (N l)
 | _,_=>False
def QZ(a:Ad)(x:Nat)(v:T)(l:LV)(X:XP)(N:NQ)(old:Va)(P:PH):Prop:=bE n v l P X (Q0 a x old l N)
def TS(x:Nat)(v:T)(l:LV)(X:XP)(N:NQ)(u:Va)(P:PH):Prop:=match u with
 | .ref a=>iD a x P (QZ n a x v l X N)
 | _=>False
def Uh(F G:SF)(l:LV)(X:XP)(N:NQ)(R:VQ)(v:Va)(P:PH):Prop:=aV v (F l P X N R) (G l P X N R)
def UH(G:SF)(X:XP)(N:NQ)(R:VQ)(l:LV)(P:PH):Prop:=G l P X N R
def U7(cs:List Bool)(i:Nat)(F:SF)(X:XP)(R:VQ)(v:Va)(l:LV)(P:PH)(k:NQ):Prop:=F (l.set i (some v)) (kD cs i P) X k R
def UJ(a:Ad)(o:PO)(P:PH):Prop:=P a=some o
def RP(cs:List Bool)(i:Nat)(F:SF)(l:LV)(X:XP)(N:NQ)(R:VQ)(v:Va)(P:PH):Prop:=match v with
 | .ref a=>(match P a with
  | some (.dict _ kvs)=>kvs.length<big/\∀ ep,cM (U7 cs i F X R) (UJ a (.dict (ep,1) kvs)) (kvs.map λe=>.str e.1 0) l (upd P a (.dict (ep,1) kvs)) N
  | some o=>(match itemsOf o with
   | some vs=>vs.length<big/\cM (U7 cs i F X R) (UJ a o) vs l P N
   | none=>False)
  | none=>False)
 | .str x _=>x=Str.empty/\N l P
 | _=>False
def Pn(cs:List Bool)(i j:Nat)(F:SF)(l:LV)(X:XP)(N:NQ)(R:VQ)(v:Va)(P:PH):Prop:=match v with
 | .ref a=>(match P a with
  | some (.list t vs)=>vs.length<big/\cM (λv l P k=>match v with
    | .ref q=>F ((l.set i (some (.int q 0))).set j (some ((vs[q]?).getD .none))) (kD cs j (kD cs i P)) X k R
    | _=>False) (UJ a (.list t vs)) ((List.range vs.length).map .ref) l P N
  | _=>False)
 | _=>False
def Po(cs:List Bool)(i:Nat)(F:SF)(l:LV)(X:XP)(N:NQ)(R:VQ)(v:Va)(P:PH):Prop:=match v with
 | .int k _=>(0<=k/\k<big)/\x7 (λq l P k=>F (l.set i (some (.int q 0))) (kD cs i P) X k R) 0 k.toNat l P N
 | _=>False
noncomputable def wpS(cs:List Bool):U->Lv->PH->XP->(NP)->VQ->Prop
 | .skip,l,P,_,N,_=>N l P
 | .expr t,l,P,X,N,_=>bE n t l P X (Rk l N)
 | .dR i t,l,P,X,N,_=>bE n t l P X (TR cs i l N)
 | .iI is t,l,P,X,N,_=>bE n t l P X (QW cs is l N)
 | .bI o x v,l,P,X,N,_=>bE n v l P X (Sy n o x l X N)
 | .mR o1 x1 o2 x2 v1 v2,l,P,X,N,_=>bE n v1 l P X λv1 P=>bE n v2 l P X λv2 P=>bE n o1 l P X λu P=>match u with
  | .ref a=>wk a x1 v1 P λP=>bE n o2 l P X λu P=>(match u with
   | .ref b=>wk b x2 v2 P (N l)
   | _=>False)
  | _=>False
 | .fG o i v,l,P,X,N,_=>bE n v l P X (UI n o i l X N)
 | .mT o1 i1 o2 i2 v1 v2,l,P,X,N,_=>bE n v1 l P X λv1 P=>bE n v2 l P X λv2 P=>bE n o1 l P X λu P=>bE n i1 l P X λi P=>pO u i v1 P λP=>bE n o2 l P X λu P=>bE n i2 l P X λi P=>pO u i v2 P (N l)
 | .aug o x v,l,P,X,N,_=>bE n o l P X (TS n x v l X N)
 | .bF c a b,l,P,X,N,R=>bE n c l P X (Uh (wpS cs a) (wpS cs b) l X N R)
 | .seq a b,l,P,X,N,R=>wpS cs a l P X (UH (wpS cs b) X N R) R
 | .ret t,l,P,X,_,R=>bE n t l P X R
 | .loop i it body,l,P,X,N,R=>bE n it l P X (RP cs i (wpS cs body) l X N R)
 | .sr i j it body,l,P,X,N,R=>bE n it l P X (Pn cs i j (wpS cs body) l X N R)
 | .qp i m body,l,P,X,N,R=>bE n m l P X (Po cs i (wpS cs body) l X N R)
 | .s9 c body,l,P,X,N,R=>∃ f,sE (λl P Q=>bE n c l P X Q) (λl P k=>wpS cs body l P X k R) f l P N
 | .FZ t,l,P,X,_,_=>bE n t l P X λv P=>match n with
  | k+1=>∀ e,P e=none->Calls k 782 [.ref e,v] (upd P e (.raw 785)) X λu P=>u=.none/\∃ fs,P e=some (.kF 785 fs)/\X e (upd P e (.exc 785 fs))
  | _=>False
 | .Dc a i s k1 k2 k3,l,P,_,N,R=>bE n a l P (λe P=>(∃ fs,P e=some (.exc 785 fs))/\i<l.length/\bE n (.prim .add (.cons (.con (.str s 0)) (.cons (.attr (.attr (.attr (.loc i) k1) k2) k3) .nil))) (l.set i (some (.ref e))) P oM R) (λq P=>N l P)
 | .bad,_,_,_,_,_=>False
end
def VD(o:Op PO)(F:List (Str × Va)->Prop):Prop:=match o with
 | some (.dict _ kvs)=>F kvs
 | _=>False
def VF(o:Op PO)(F:Nat × Nat->List Va->Prop):Prop:=match o with
 | some (.list t vs)=>F t vs
 | _=>False
def atT(o:Op PO)(F:List Va->Prop):Prop:=match o with
 | some (.tup vs)=>F vs
 | _=>False
def VE(o:Op PO)(F:Ad->List (Nat × Va)->Prop):Prop:=match o with
 | some (.inst C fs)=>F C fs
 | _=>False
theorem KR{F:Ad->List (Nat × Va)->Prop}:∀{o:Op PO},VE o F->∃ C fs,o=some (.inst C fs)/\F C fs
 | none,h=>ck h
 | some o,h=>by cases o<;>first|exact ck h|exact⟨_,_,rfl,h⟩
theorem KQ{F:List (Str × Va)->Prop}:∀{o:Op PO},VD o F->∃ t kvs,o=some (.dict t kvs)/\F kvs
 | none,h=>ck h
 | some o,h=>by cases o<;>first|exact ck h|exact⟨_,_,rfl,h⟩
theorem KS{F:Nat × Nat->List Va->Prop}:∀{o:Op PO},VF o F->∃ t vs,o=some (.list t vs)/\F t vs
 | none,h=>ck h
 | some o,h=>by cases o<;>first|exact ck h|exact⟨_,_,rfl,h⟩
theorem KU{F:List Va->Prop}:∀{o:Op PO},atT o F->∃ vs,o=some (.tup vs)/\F vs
 | none,h=>ck h
 | some o,h=>by cases o<;>first|exact ck h|exact⟨_,rfl,h⟩
theorem wg{n:Nat}{b:Bool}{t:T}{l:Lv}{P:PH}{X:XP}{Q:VQ}(h:bE n (if b=true then t else .bad) l P X Q):b=true/\bE n t l P X Q:=by
 cases b
 ·exact ck h
 ·exact⟨rfl,h⟩
theorem EB{n:Nat}{b:Bool}{t:T}{l:Lv}{P:PH}{X:XP}{Q:VQ}(h:bE n (if b=true then .bad else t) l P X Q):b=false/\bE n t l P X Q:=by
 cases b
 ·exact⟨rfl,h⟩
 ·exact ck h
theorem Kv{n:Nat}{cs:List Bool}{b:Bool}{t:U}{l:Lv}{P:PH}{X:XP}{N:NP}{R:VQ}(h:wpS n cs (if b=true then t else .bad) l P X N R):b=true/\wpS n cs t l P X N R:=by
 cases b
 ·exact ck h
 ·exact⟨rfl,h⟩
theorem r7{n:Nat}{cs:List Bool}{b:Bool}{t:U}{l:Lv}{P:PH}{X:XP}{N:NP}{R:VQ}(h:wpS n cs (if b=true then .bad else t) l P X N R):b=false/\wpS n cs t l P X N R:=by
 cases b
 ·exact⟨rfl,h⟩
 ·exact ck h
theorem lD{α:Type}{n:Nat}{o:Op α}{f:α->T}{l:Lv}{P:PH}{X:XP}{Q:VQ}{G:Prop}(h:bE n (o.elim .bad f) l P X Q)(k:∀ a,o=some a->bE n (f a) l P X Q->G):G:=by
 cases o
 ·exact ck h
 ·exact k _ rfl h
theorem cY{α:Type}{n:Nat}{cs:List Bool}{o:Op α}{f:α->U}{l:Lv}{P:PH}{X:XP}{N:NP}{R:VQ}{G:Prop}(h:wpS n cs (o.elim .bad f) l P X N R)(k:∀ a,o=some a->wpS n cs (f a) l P X N R->G):G:=by
 cases o
 ·exact ck h
 ·exact k _ rfl h
variable{c:Fx}{l l':Lv}{P P':PH}{s s':Sh}{A:Around}{E:VS}{Q:Va->PH->Prop}{m:Str->Op Va}{G:HF}{D:Ad->Ad}
theorem dO{n:Nat}(h:n<big):n<=sizeLine:=by rw[sizeLine_eq];unfold big at h;lia
theorem St.toks(S:St c l P s)(t:Nat):St c l P { s with toks:=t }:=S.keep (λq q e=>e) .toks
theorem St.ok{v:Va}(S:St c l P s)(h:Q (ab v) P):Ok c l Q v s:=⟨P,S,h⟩
theorem St.kept(S:St c l P s){h:Heap}{t:Nat}(k:gU s.heap h):St c l P { s with heap:=h,toks:=t }:=by obtain⟨m,G,D,S⟩:=S;refine⟨m,G,D,S.moved (S.sat.keep (.of_keep S.sat.stay k)) rfl rfl⟩
theorem St.uS(S:St c l P s){h:Heap}(k:gU s.heap h){a:Ad}{ob:Obj}{t:Nat}{o:PO}(ha:s.heap.objs.size<=a)(e:h.get? a=some ob)(hd:o.fB=false)
  (r:∀ F d,h.get? a=some ob->cZ h F d a o):P a=none/\St c l (upd P a o) { s with heap:=h,toks:=t }:=by obtain⟨m,G,D,S⟩:=S;obtain⟨e1,e2⟩:=S.sat.lt ha;refine⟨(S.sat.fresh e1).1,m,G,D,S.moved (S.sat.alloc (.of_keep S.sat.stay k) e1 e2 hd (r _ _ e)) rfl rfl⟩
theorem St.made(S:St c l P s){h:Heap}(k:gU s.heap h){a:Ad}{ob:Obj}{t:Nat}{o:PO}(ha:s.heap.objs.size<=a)(e:h.get? a=some ob)(hd:o.fB=false)
  (r:∀ F d,h.get? a=some ob->cZ h F d a o) (hQ:cG P o Q):Ok c l Q (.ref a) { s with heap:=h,toks:=t }:=
 let ⟨h1,h2⟩:=S.uS k ha e hd r
 ⟨_,h2,hQ a h1⟩
theorem cN{h:Heap}{o:Obj}:gU h (h.push o):=λq q e=>ek _ e
theorem JD{vs:List Va}(S:St c l P s)(h:bD .tup (vs.map ab) P Q):wpAny (MM wd) A (newTuple vs) (Ok c l Q) E s:=by obtain⟨hz,hq⟩:=h;exact wpAny_newObj_type (S.made (t:=s.toks) (o:=.tup (vs.map ab)) cN (f7 _) (fj _ rfl) rfl (λF d e=>⟨vs,0,e,rfl⟩) hq) (by show vs.toArray.size<=sizeLine;rw[ie];exact dO (by simpa using hz))
theorem Mh{vs:List Va}(S:St c l P s)(h:bD .list (vs.map ab) P Q):wpAny (MM wd) A (newList vs) (Ok c l Q) E s:=by obtain⟨hz,hq⟩:=h;exact wpAny_newObj_type (S.made (t:=s.toks) (o:=.list (0,0) (vs.map ab)) cN (f7 _) (fj _ rfl) rfl (λF d e=>⟨vs,0,e,rfl⟩) hq) (by show vs.toArray.size<=sizeLine;rw[ie];exact dO (by simpa using hz))
theorem xX(v:Va):isNone (ab v)=(v==.none):=by cases v<;>rfl
theorem yi(v:Va):lA (ab v)=lA v:=by cases v<;>rfl
theorem Sj{a b:Va}(S:St c l P s)(h:bD .is [ab a,ab b] P Q):wpAny (MM wd) A (compareOp .Is a b) (Ok c l Q) E s:=by obtain⟨rfl,hp,h'⟩:=El h;rw[yi] at hp;rw[xX] at h';refine wpAny_is_plain ?_ (S.ok h');cases a<;>first|rfl|cases hp
theorem Jy{a b:Va}(S:St c l P s)(h:bD .dU [ab a,ab b] P Q):wpAny (MM wd) A (compareOp .IsNot a b) (Ok c l Q) E s:=by obtain⟨rfl,hp,h'⟩:=El h;rw[yi] at hp;rw[xX] at h';refine wpAny_isNot_plain ?_ (S.ok h');cases a<;>first|rfl|cases hp
theorem Sk{a b:Va}(S:St c l P s)(h:bD .lt [ab a,ab b] P Q):wpAny (MM wd) A (compareOp .Lt a b) (Ok c l Q) E s:=by obtain⟨i,t,rfl,h⟩:=dM h;obtain⟨j,u,rfl,h⟩:=dM h;exact lt_int (S.ok h)
theorem Sg{a b:Va}(S:St c l P s)(h:bD .gt [ab a,ab b] P Q):wpAny (MM wd) A (compareOp .Gt a b) (Ok c l Q) E s:=by obtain⟨i,t,rfl,h⟩:=dM h;obtain⟨j,u,rfl,h⟩:=dM h;exact gt_int (S.ok h)
theorem intBits_le{b:Int}(h:b.natAbs<2^60):Builtin.Int.intBits b<=64:=by
 unfold Builtin.Int.intBits;by_cases q:b=0
 ·subst q;decide
 ·have h0:b.natAbs≠0:=by lia
  have:=(Nat.log2_lt h0).mpr h;split<;>lia
theorem PT{a b:Va}(S:St c l P s)(h:bD .mul [ab a,ab b] P Q):wpAny (MM wd) A (binaryOp .Mult a b) (Ok c l Q) E s:=by obtain⟨i,t,rfl,h⟩:=dM h;obtain⟨j,u,rfl,h⟩:=dM h;exact PyProof.Rows.mul_int ((S.toks _).ok h.2) (.of_right (intBits_le h.1))
theorem PS{a b:Va}(S:St c l P s)(h:bD .mod [ab a,ab b] P Q):wpAny (MM wd) A (binaryOp .Mod a b) (Ok c l Q) E s:=by obtain⟨i,t,rfl,h⟩:=dM h;obtain⟨j,u,rfl,h⟩:=dM h;refine mod_int (Int.ne_of_gt h.1) ((S.toks _).ok ?_);have hq:=h.2;rw[<-Int.fmod_eq_emod_of_nonneg _ (Int.le_of_lt h.1)] at hq;exact hq
theorem Gj{a b:Int}(hb:0<b)(hz:b<2^60):Builtin.divisionGoesByPylong a b=false:=by
 unfold Builtin.divisionGoesByPylong;have h0:b.natAbs≠0:=by lia
 have hn:b.natAbs<2^60:=by lia
 have:=(Nat.log2_lt h0).mpr hn;have h1:¬ (b==0)=true:=by simpa using Int.ne_of_gt hb
 simp only[h1,if_false,Bool.and_eq_false_iff,decide_eq_false_iff_not]
 left;simp only[Bool.false_eq_true,if_false];lia
theorem Mc{a b:Va}(S:St c l P s)(h:bD .fdiv [ab a,ab b] P Q):wpAny (MM wd) A (binaryOp .FloorDiv a b) (Ok c l Q) E s:=by
 obtain⟨i,t,rfl,h⟩:=dM h;obtain⟨j,u,rfl,h⟩:=dM h;refine PyProof.Rows.floordiv_int (Int.ne_of_gt h.1.1) ((S.toks _).ok ?_) ?_
 ·have hq:=h.2
  rw[<-Int.fdiv_eq_ediv_of_nonneg _ (Int.le_of_lt h.1.1)] at hq;exact hq
 ·exact .inl (Gj h.1.1 h.1.2)
theorem PV{a b:Va}(S:St c l P s)(h:bD .pow [ab a,ab b] P Q):wpAny (MM wd) A (binaryOp .Pow a b) (Ok c l Q) E s:=by obtain⟨i,t,rfl,h⟩:=dM h;obtain⟨j,u,rfl,h⟩:=dM h;obtain⟨⟨rfl,rfl⟩,hq⟩:=h;exact pow_int () ⋯ ((S.toks _).ok hq)
theorem eV{a:Ad}{t:Nat × Nat}{vs:List Va}(S:St c l P s)(h:P a=some (.list t vs)):EI listOf s.heap a vs:=by obtain⟨m,G,D,S⟩:=S;exact(S.sat.rel a _ h).2
theorem mX{a:Ad}{vs:List Va}(S:St c l P s)(h:P a=some (.tup vs)):EI BA s.heap a vs:=by obtain⟨m,G,D,S⟩:=S;exact(S.sat.rel a _ h).2
theorem tD{a b:Nat}(h:a<big)(k:b<big):a+b<=sizeLine:=by rw[sizeLine_eq];unfold big at *;lia
theorem Jv{a b:Va}(S:St c l P s)(h:bD .add [ab a,ab b] P Q):wpAny (MM wd) A (binaryOp .Add a b) (Ok c l Q) E s:=by
 rcases pV h with⟨i,t,rfl,h⟩|⟨x,t,rfl,h⟩|⟨x,rfl,h⟩
 ·obtain⟨j,u,rfl,h⟩:=dM h
  exact add_int ((S.toks _).ok h)
 ·obtain⟨y,u,rfl,h⟩:=iQ h
  exact add_str (λt' tk=>(S.toks _).ok h.2) (tD h.1.1 h.1.2)
 ·obtain⟨y,rfl,h⟩:=cD h
  obtain⟨t,_,e1,h⟩:=fD h;obtain⟨t',_,e2,hz,hq⟩:=fD h;obtain⟨vs',n,g1,rfl⟩:=eV S e1;obtain⟨us',n',g2,rfl⟩:=eV S e2;rw[ef,ef] at hz;exact PySem.P.add_list g1 g2 (S.made (t:=s.toks) (o:=.list (0,0) (vs'.map ab++us'.map ab)) cN (f7 _) (fj _ rfl) rfl (λF d e=>⟨vs'++us',0,by simpa using e,i8 ..⟩) hq) (tD hz.1 hz.2)
theorem cZ.zq{h:Heap}{F:HF}{d a:Ad}{o:PO}(r:cZ c.base (λj=>none) 0 a o)(k:c.base.StaysIn h)(ho:o.fB=false):cZ h F d a o:=by
 cases o with
 | inst=>cases ho
 | exc=>cases ho
 | kF=>cases ho
 | dict t kvs=>obtain⟨⟨o,kvs',h1,h2,hm⟩,h3⟩:=r;exact⟨⟨o,kvs',k _ _ h1,h2,hm⟩,λq=>let ⟨o,es,x,y⟩:=h3 q;⟨o,es,k _ _ x,y⟩⟩
 | tab es=>exact k _ _ r
 | code i=>obtain⟨o,vs,t,h1,h2⟩:=r;exact⟨o,vs,t,k _ _ h1,h2⟩
 | raw C=>obtain⟨vs,h1⟩:=r;exact⟨vs,k _ _ h1⟩
 | list t vs=>obtain⟨vs',n,h1,h2⟩:=r;exact⟨vs',n,k _ _ h1,h2⟩
 | tup vs=>obtain⟨vs',n,h1,h2⟩:=r;exact⟨vs',n,k _ _ h1,h2⟩
 | lam i vs=>obtain⟨o,cs,h1,h2,h3⟩:=r;refine⟨o,cs,k _ _ h1,h2,λq hq=>?_⟩;obtain⟨p,e,_⟩:=h3 q hq;cases e
theorem zm(S:St c l P s)(O:bM c):iE P:=λa o h=>by
 obtain⟨m,G,D,S⟩:=S;cases q:nY a with
 | none=>rfl
 | some o'=>obtain⟨ob,e⟩:=cZ.self (O.st a o' q);rw[(S.sat.rel a o h).1] at e;cases e
theorem qB{a:Ad}{t:Nat × Nat}{kvs:List (Str × Va)}(S:St c l P s)(O:bM c)(h:rd P a=some (.dict t kvs)):G5 s.heap a kvs:=by
 obtain⟨m,G,D,S⟩:=S;unfold rd at h;split at h
 ·obtain rfl:=kr h;rename_i q;exact(S.sat.rel a _ q).2.1
 ·exact(cZ.zq (d:=0) (F:=G) (O.st a _ h) S.sat.stay rfl).1
theorem zE{a:Ad}{vs:List Va}(S:St c l P s)(O:bM c)(h:rd P a=some (.tup vs)):EI BA s.heap a vs:=by
 obtain⟨m,G,D,S⟩:=S;unfold rd at h;split at h
 ·obtain rfl:=kr h;rename_i q;exact(S.sat.rel a _ q).2
 ·exact cZ.zq (d:=0) (F:=G) (O.st a _ h) S.sat.stay rfl
theorem nO{a:Ad}{t:Nat × Nat}{vs:List Va}(S:St c l P s)(O:bM c)(h:rd P a=some (.list t vs)):EI listOf s.heap a vs:=by
 obtain⟨m,G,D,S⟩:=S;unfold rd at h;split at h
 ·obtain rfl:=kr h;rename_i q;exact(S.sat.rel a _ q).2
 ·exact cZ.zq (d:=0) (F:=G) (O.st a _ h) S.sat.stay rfl
theorem iC{a:Ad}{t:Nat × Nat}{kvs:List (Str × Va)}(S:St c l P s)(O:bM c)(h:P a=some (.dict t kvs)):(a==sysModules)=false/\G5 s.heap a kvs:=by
 obtain⟨m,G,D,S⟩:=S;obtain⟨h1,h2⟩:=S.sat.rel a _ h;refine⟨?_,h2.1⟩;obtain⟨o,ho⟩:=O.big;simp only[beq_eq_false_iff_ne,ne_eq]
 rintro rfl
 rw[ho] at h1;cases h1
theorem pH{a:Ad}{t:Nat × Nat}{kvs:List (Str × Va)}(S:St c l P s)(O:bM c)(h:rd P a=some (.dict t kvs)):(a==sysModules)=false:=by
 obtain⟨m,G,D,S⟩:=S;unfold rd at h;split at h
 ·rename_i q
  obtain⟨o,ho⟩:=O.big;have h1:=(S.sat.rel a _ q).1;simp only[beq_eq_false_iff_ne,ne_eq]
  rintro rfl
  rw[ho] at h1;cases h1
 ·unfold nY at h
  by_cases q:a=sysModules
  ·subst q
   have h:(if sysModules=wj then some (PO.list (0,0) (Jq.map λi=>.int i 0)) else none)=some (.dict t kvs):=h;split at h<;>cases h
  ·simpa using q
theorem AY(k:Str):∀ kvs:List (Str × Va),aR k (kvs.map kP)=(valueAt kvs k).map ab:=by
 intro rr;induction rr with
 | nil=>exact rfl
 | cons yk r ih=>
  obtain⟨x,v⟩:=yk;simp only[gn,LA,kP,valueAt,List.find?_cons];by_cases h:x=k
  ·simp [h]
  ·simp only[h,if_false,decide_false]
   exact ih
theorem Pb(k:Str)(v:Va):∀ kvs:List (Str × Va),(kvs.map (·.1)).Nodup->cU k (ab v) (kvs.map kP)=(stored kvs k v).map kP:=by
 intro rr;induction rr with
 | nil=>exactλq=>rfl
 | cons yk r ih=>
  obtain⟨x,u⟩:=yk;intro nd;rw[gn,jj] at nd;have ih:=ih nd.2;unfold stored at ih ⊢;simp only[gn,tP,kP,jo];by_cases h:x=k
  ·subst h
   simp only[if_true,decide_true,Bool.true_or,gn,kP]
   congr 1
   have:(r.map λkv=>if kv.1=x then(kv.1,v) else kv)=r:=map_store_of_not_mem r x v nd.1;rw[this]
  ·simp only[h,if_false,decide_false,Bool.false_or]
   rw[ih];split<;>simp [h,kP]
theorem O9(k:Str)(kvs:List (Str × Va)):vd k (kvs.map kP)=(without kvs k).map kP:=by unfold vd without;rw[List.filter_map];rfl
theorem kL{value slice:Expr}{o i:Va}{T id:String}{ops:List Va}{Q':VS}(hT:s.TypeIs o T)
  (hl:typeLookup (.type T) "__getitem__"=pure (some (.builtin id))) (h:wpAny (MM wd) A (getItem o i) Q' E s)
  (hs:subscripted slice false o i=operate ops (getItem o i)):wpAny (MM wd) A (subscriptTail value slice o i) Q' E s:=by
 unfold subscriptTail;refine af ?_;rw[getitemInPython_of_ne hT.not_modules];refine af (wpAny_specialOf hT hl ?_);have fin:wpAny (MM wd) A (subscripted slice false o i) (λr jH=>wpAny (MM wd) A (letTemporaryGo value o r>>=λq=>pure r) Q' E jH) E s:=by rw[hs];exact wpAny_operating (ak h (λr jH bY=>af (wpAny_letTemporaryGo (aq bY))) λq q x=>x)
 first
  | exact aq (af fin)
  | exact af (aq (af fin))
  | exact af fin
theorem bK{h:Heap}{a:Ad}{vs:Array Va}{n:Nat}(e:h.get? a=some (listOf vs n)):h.IsList a vs:=⟨_,e,rfl,n,rfl⟩
theorem qg{h:Heap}{a:Ad}{vs:Array Va}{n:Nat}(e:h.get? a=some (BA vs n)):IsTup h a vs:=⟨_,e,rfl,n,rfl⟩
theorem k7{h:Heap}{a:Ad}{vs:Array Va}{n:Nat}(e:h.get? a=some (BA vs n)):h.IsTuple a vs:=⟨_,e,rfl,n,rfl⟩
theorem get_map{vs:List Va}{j:Nat}{v:Va}(h:(vs.map ab)[j]?=some v):∃ v',vs[j]?=some v'/\ab v'=v:=by
 rw[gj] at h;cases q:vs[j]? with
 | none=>rw[q] at h;cases h
 | some v'=>rw[q] at h;exact⟨v',rfl,kr h⟩
theorem CW{value slice:Expr}{x:Str}{t u:Tok}(S:St c l P s)(hx:x="K"\/x="L")(hq:Q (.str x 0) P)(hs:∀ o i,subscripted slice false o i=operate [o,i] (getItem o i)):
  wpAny (MM wd) A (subscriptTail value slice (.str x t) (.int 0 u)) (Ok c l Q) E s:=by
 refine kL (typeIs_str _ x t) PySem.F.slot_str_getitem.lookup ?_ (hs _ _);rcases hx with rfl|rfl
 ·exact PySem.P.getItem_str (c:=75) () ⋯ ((S.toks _).ok hq)
 ·exact PySem.P.getItem_str (c:=76) () ⋯ ((S.toks _).ok hq)
theorem JC{x y:Str}{t u:Tok}(S:St c l P s)(hy:y="ABCDEFGHIJKLMNOPQRSTUVWXYZ")(hx:x="K"\/x="L")(hq:Q (.bool true) P):wpAny (MM wd) A (compareOp .In (.str x t) (.str y u)) (Ok c l Q) E s:=by
 subst hy;refine PySem.P.in_str (S.ok ?_);have:(!(Builtin.Str.occurrences "ABCDEFGHIJKLMNOPQRSTUVWXYZ" x 0 (Str.length "ABCDEFGHIJKLMNOPQRSTUVWXYZ") 1).isEmpty)=true:=by rcases hx with rfl|rfl<;>decide +kernel
 rw[this];exact hq
theorem Bl{x y:Str}{t u:Tok}(S:St c l P s)(hy:y="ABCDEFGHIJKLMNOPQRSTUVWXYZ")(hx:x="K"\/x="L")(hq:Q (.bool false) P):wpAny (MM wd) A (compareOp .NotIn (.str x t) (.str y u)) (Ok c l Q) E s:=by
 subst hy;refine PySem.P.notIn_str (S.ok ?_);have:(!(!(Builtin.Str.occurrences "ABCDEFGHIJKLMNOPQRSTUVWXYZ" x 0 (Str.length "ABCDEFGHIJKLMNOPQRSTUVWXYZ") 1).isEmpty))=false:=by rcases hx with rfl|rfl<;>decide +kernel
 rw[this];exact hq
theorem zG{i:Int}{n:Nat}(h1:0<=i)(h2:i.toNat<n):seqIndex? i n=some i.toNat:=by
 unfold seqIndex?;have h3:¬ i<0:=by lia
 simp only[h3,if_false];have:(decide (0<=i)&&decide (i<(n:Int)))=true:=by simp;lia
 rw[ai this]
theorem Mg{value slice:Expr}{o i:Va}(S:St c l P s)(O:bM c)(h:bD .item [ab o,ab i] P Q)(hs:∀ o i,subscripted slice false o i=operate [o,i] (getItem o i)):
  wpAny (MM wd) A (subscriptTail value slice o i) (Ok c l Q) E s:=by
 rcases pV h with⟨_,_,_,h⟩|⟨x,t,rfl,h⟩|⟨a,rfl,h⟩
 ·exact ck h
 ·obtain⟨i,u,rfl,h⟩:=dM h
  obtain⟨⟨rfl,hx⟩,hq⟩:=h;exact CW S hx hq hs
 rcases pV h with⟨i,t,rfl,h⟩|⟨k,t,rfl,h⟩|⟨_,_,h⟩
 ·rcases Hw h with⟨_,_,q,h1,h2,h3⟩|⟨_,q,h1,h2,h3⟩
  ·obtain⟨vs',n,g,rfl⟩:=eV S q
   obtain⟨v,hv,h3⟩:=qw h3;obtain⟨v',hv',rfl⟩:=get_map hv;exact kL (bK g).typeIs PySem.F.slot_list_getitem.lookup (wpAny_getItem_list (bK g) h1 (by lia) (by simpa using hv') (S.ok h3)) (hs _ _)
  ·obtain⟨vs',n,g,rfl⟩:=mX S q
   obtain⟨v,hv,h3⟩:=qw h3;obtain⟨v',hv',rfl⟩:=get_map hv;have hlt:=(List.getElem?_eq_some_iff.mp hv').1;refine kL (qg g).typeIs PySem.F.slot_tuple_getitem.lookup (getItem_tuple (qg g) (by lia) (by lia) (j:=i.toNat) ?_ (by simpa using hv') (S.ok h3)) (hs _ _);rw[ie];exact zG h1 hlt
 ·obtain⟨t',_,q,h⟩:=iP (h (zm S O))
  obtain⟨ob,kvs',g,hd,rfl⟩:=qB S O q;rw[AY] at h;obtain⟨v',hv0,h⟩:=qw h;obtain⟨v,hv,rfl⟩:=dw hv0;exact kL (Heap.dictOf_iff.mpr ⟨ob,g,hd⟩).typeIs PySem.F.slot_dict_getitem.lookup (wpAny_getItem_of (bz _ wd k t) (Heap.dictOf_iff.mpr ⟨ob,g,hd⟩).mapOf hv ((S.toks _).ok h)) (hs _ _)
 ·exact ck h
set_option tactic.hygienic true in
theorem nj(k:Str):∀{vs:List Va} {b:Bool},gB k (vs.map ab)=some b->∃ ys,StrsAre vs ys/\ys.any (·==k)=b:=by
 intro rr;induction rr with
 | nil=>exact @λb h=>⟨[],.nil,kr h⟩
 | cons v r ih=>
  intro b h;cases v<;>first|exact bB h|skip
  rename_i x t;have h:(gB k (r.map ab)).map (decide (x=k)||·)=some b:=h;exact dK h λb' q h=>by obtain⟨ys,h1,h2⟩:=ih q;refine⟨x::ys,.cons x t h1,?_⟩;rw[jo,h2,<-h];by_cases q:x=k<;>simp [q]
theorem ny{r:Op Bool}(h:xG r P Q):∃ b,r=some b/\Q (.bool b) P:=by cases r<;>first|exact ck h|exact⟨_,rfl,h⟩
theorem DY{x:Str}{o:Op PO}{r:Bool}(h:inR x o=some r):(∃ t kvs,o=some (.dict t kvs)/\(aR x kvs).isSome=r)\/(∃ t vs,o=some (.list t vs)/\gB x vs=some r)\/∃ vs,o=some (.tup vs)/\gB x vs=some r:=by
 obtain _|o:=o
 ·cases h
 ·cases o<;>first|cases h;done|exact .inl ⟨_,_,rfl,kr h⟩|exact .inr (.inl ⟨_,_,rfl,h⟩)|exact .inr (.inr ⟨_,rfl,h⟩)
set_option tactic.hygienic true in
theorem DZ{a b:Va}{r:Bool}(h:QG P (ab a) (ab b)=some r):∃ x t,a=.str x t/\((∃ d,b=.ref d/\inR x (rd P d)=some r)\/∃ y u,b=.str y u/\(y=("ABCDEFGHIJKLMNOPQRSTUVWXYZ":Str)/\(x=("K":Str)\/x=("L":Str)))/\r=true):=by
 cases a<;>first|cases h;done|skip
 refine⟨_,_,rfl,?_⟩;cases b<;>first|cases h;done|exact .inl ⟨_,rfl,h⟩|skip
 refine .inr ⟨_,_,rfl,?_⟩;rename_i x _ y _;have h:(if y=("ABCDEFGHIJKLMNOPQRSTUVWXYZ":Str)/\(x=("K":Str)\/x=("L":Str)) then some true else none)=some r:=h;by_cases q:y=("ABCDEFGHIJKLMNOPQRSTUVWXYZ":Str)/\(x=("K":Str)\/x=("L":Str))
 ·rw[ai q] at h;exact⟨q,(kr h).symm⟩
 ·rw[aa q] at h;cases h
theorem D5{kvs:List (Str × Va)}{k:Str}:(aR k (kvs.map kP)).isSome=(valueAt kvs k).isSome:=by rw[AY,Option.isSome_map]
theorem Si{a b:Va}(S:St c l P s)(O:bM c)(h:bD .isin [ab a,ab b] P Q):wpAny (MM wd) A (compareOp .In a b) (Ok c l Q) E s:=by
 obtain⟨r,hr,h⟩:=ny (h (zm S O));obtain⟨x,t,rfl,⟨d,rfl,hr⟩|⟨y,u,rfl,hc,rfl⟩⟩:=DZ hr
 ·rcases DY hr with⟨_,_,q,rfl⟩|⟨_,_,q,hr⟩|⟨_,q,hr⟩
  ·obtain⟨ob,kvs',g,hd,rfl⟩:=qB S O q
   rw[D5] at h;exact wpAny_in_of (bz _ wd x t) (pH S O q) (Heap.dictOf_iff.mpr ⟨ob,g,hd⟩).mapOf ((S.toks _).ok h)
  ·obtain⟨vs',n,g,rfl⟩:=nO S O q
   obtain⟨ys,h1,rfl⟩:=nj x hr;exact in_list_strs (bK g) h1 (S.ok h)
  ·obtain⟨vs',n,g,rfl⟩:=zE S O q
   obtain⟨ys,h1,rfl⟩:=nj x hr;exact in_tuple_strs (qg g) (by simpa using h1) (S.ok h)
 ·exact JC S hc.1 hc.2 h
theorem JA{a b:Va}(S:St c l P s)(O:bM c)(h:bD .oN [ab a,ab b] P Q):wpAny (MM wd) A (compareOp .NotIn a b) (Ok c l Q) E s:=by
 obtain⟨r',hr',h⟩:=ny (h (zm S O));obtain⟨r,hr,rfl⟩:=dw hr';obtain⟨x,t,rfl,⟨d,rfl,hr⟩|⟨y,u,rfl,hc,rfl⟩⟩:=DZ hr
 ·rcases DY hr with⟨_,_,q,rfl⟩|⟨_,_,q,hr⟩|⟨_,q,hr⟩
  ·obtain⟨ob,kvs',g,hd,rfl⟩:=qB S O q
   rw[D5] at h;exact wpAny_notIn_of (bz _ wd x t) (pH S O q) (Heap.dictOf_iff.mpr ⟨ob,g,hd⟩).mapOf ((S.toks _).ok h)
  ·obtain⟨vs',n,g,rfl⟩:=nO S O q
   obtain⟨ys,h1,rfl⟩:=nj x hr;exact notin_list_strs (bK g) h1 (S.ok h)
  ·obtain⟨vs',n,g,rfl⟩:=zE S O q
   obtain⟨ys,h1,rfl⟩:=nj x hr;exact notin_tuple_strs (qg g) (by simpa using h1) (S.ok h)
 ·exact Bl S hc.1 hc.2 h
theorem Me{a b:Va}(S:St c l P s)(O:bM c)(h:bD .ry [ab a,ab b] P Q):wpAny (MM wd) A (call (.builtin "dict.get") [a,b]) (Ok c l Q) E s:=by obtain⟨d,rfl,h⟩:=cD h;obtain⟨k,t,rfl,h⟩:=iQ h;obtain⟨_,_,q,h⟩:=iP h;obtain⟨lo,ob,kvs',g,hd,rfl⟩:=iC S O q;rw[AY] at h;refine call_meetsIn j7 (Heap.dictOf_iff.mpr ⟨ob,g,hd⟩).typeIs PySem.F.entry_dict_get (PySem.F.args_dict_get_2 _ _) (meets_dict_get (strKind pw wd) d (bz _ wd k t) lo) ⟨_,(Heap.dictOf_iff.mpr ⟨ob,g,hd⟩).mapOf,(S.toks _).ok ?_⟩;cases hv:valueAt kvs' k<;>rw[hv] at h<;>exact h
theorem Mf{a b e:Va}(S:St c l P s)(O:bM c)(h:bD .uU [ab a,ab b,ab e] P Q):wpAny (MM wd) A (call (.builtin "dict.get") [a,b,e]) (Ok c l Q) E s:=by obtain⟨d,rfl,h⟩:=cD h;obtain⟨k,t,rfl,h⟩:=iQ h;obtain⟨_,_,q,h⟩:=iP (h (zm S O));obtain⟨ob,kvs',g,hd,rfl⟩:=qB S O q;rw[AY] at h;refine call_meetsIn j7 (Heap.dictOf_iff.mpr ⟨ob,g,hd⟩).typeIs PySem.F.entry_dict_get (PySem.F.args_dict_get_3 _ _ _) (meets_dict_get_default (strKind pw wd) d (bz _ wd k t) (pH S O q) e) ⟨_,(Heap.dictOf_iff.mpr ⟨ob,g,hd⟩).mapOf,(S.toks _).ok ?_⟩;cases hv:valueAt kvs' k<;>rw[hv] at h<;>exact h
theorem vP{h h':Heap}{a:Ad}(x:Heap.SameBut a h h'):∀ b o,b≠a->h.get? b=some o->h'.get? b=some o:=λb o hb e=>(x.2 b hb).trans e
theorem vQ{h h':Heap}{a:Ad}(x:Heap.SameBut a h h'):h.objs.size<=h'.objs.size:=gi x.1.symm
theorem PU{a b:Va}(S:St c l P s)(O:bM c)(h:bD .pop [ab a,ab b] P Q):wpAny (MM wd) A (call (.builtin "dict.pop") [a,b]) (Ok c l Q) E s:=by obtain⟨d,rfl,h⟩:=cD h;obtain⟨k,t,rfl,h⟩:=iQ h;obtain⟨_,_,q,hz,h⟩:=iP h;obtain⟨lo,ob,kvs',g,hd,rfl⟩:=iC S O q;rw[ef] at hz;rw[AY,O9] at h;obtain⟨v',hv0,h⟩:=qw h;obtain⟨v,hv,rfl⟩:=dw hv0;refine call_meetsIn PySem.F.slot_dict_pop (Heap.dictOf_iff.mpr ⟨ob,g,hd⟩).typeIs PySem.F.entry_dict_pop (PySem.F.args_dict_pop_2 _ _) (meets_dict_pop_there (strKind pw wd) d (bz _ wd k t) [] (.inl rfl) rfl) ⟨kvs',v,Heap.dictOf_iff.mpr ⟨ob,g,hd⟩,dO hz,hv,λh' hm hs=>?_⟩;obtain⟨o',e1,e2⟩:=Heap.dictOf_iff.mp hm;exact⟨_,(S.set (o':=.dict (0,0) ((without kvs' k).map kP)) (vP hs) ⟨vQ hs,rfl,rfl⟩ q rfl rfl λF dd=>⟨⟨o',_,e1,e2,rfl⟩,λz=>absurd z ()⟩),h⟩
theorem FN{a b:Va}(S:St c l P s)(h:bD .append [ab a,ab b] P Q):wpAny (MM wd) A (call (.builtin "list.append") [a,b]) (Ok c l Q) E s:=by obtain⟨d,rfl,h⟩:=cD h;obtain⟨_,_,q,hz,hq⟩:=fD h;obtain⟨vs',n,g,rfl⟩:=eV S q;rw[ef] at hz;exact append_at g (λh' hs e=>⟨_,S.set (o':=.list _ (vs'.map ab++[ab b])) (vP hs) ⟨vQ hs,rfl,rfl⟩ q rfl rfl λF dd=>⟨vs'++[b],n+1,by show h'.get? d=_;rw[e];simp,i8 ..⟩,hq⟩) (dO hz)
theorem vo{vs us:List Va}{n:Nat}(f:Array Va->Array Va)(h:f vs.toArray=us.toArray):∃ n',Obj.mapSeq f (W.listOf vs.toArray n)=W.listOf us.toArray n':=by unfold Obj.mapSeq W.listOf;simp only[h];exact⟨_,rfl⟩
theorem FQ{a b:Va}(S:St c l P s)(h:bD .extend [ab a,ab b] P Q):wpAny (MM wd) A (call (.builtin "list.extend") [a,b]) (Ok c l Q) E s:=by obtain⟨x,rfl,h⟩:=cD h;obtain⟨y,rfl,h⟩:=cD h;obtain⟨_,_,q1,h⟩:=fD h;obtain⟨_,_,q2,⟨hne,z1,z2⟩,hq⟩:=fD h;obtain⟨vs',n,g1,rfl⟩:=eV S q1;obtain⟨us',n2,g2,rfl⟩:=eV S q2;rw[ef] at z1 z2;have hs:Heap.SameBut x s.heap (s.heap.update x (Obj.mapSeq λy=>y++us'.toArray)):=Heap.SameBut.update ..;obtain⟨n',e⟩:=vo (n:=n) (vs:=vs') (us:=vs'++us') (λy=>y++us'.toArray) (by simp);refine call_meets PySem.F.slot_list_extend ⟨_,g1,rfl⟩ PySem.F.entry_list_extend (PySem.F.args_list_extend_2 _ _) (PySem.AutoSeq1.list_extend_list_list_0 x vs'.toArray n y us'.toArray n2 ?_ (dO z1) (Nat.le_succ_of_le (tD z1 z2))) ⟨g1,g2,_,S.set (o':=.list _ (vs'.map ab++us'.map ab)) (s':={ s with heap:=s.heap.update x (Obj.mapSeq λy=>y++us'.toArray) }) (vP hs) ⟨vQ hs,rfl,rfl⟩ q1 rfl rfl λF dd=>⟨vs'++us',n',(g9 _ g1 (by rw[e];rfl)).trans (aj some e),i8 ..⟩,hq⟩;unfold Builtin.List.listTooLong;simp [Nat.not_lt.mpr (show vs'.length+us'.length<=sizeLine from tD z1 z2)]
theorem PR{a:Va}(S:St c l P s)(O:bM c)(h:bD .len [ab a] P Q):wpAny (MM wd) A (call (.builtin "len") [a]) (Ok c l Q) E s:=by obtain⟨x,rfl,h⟩:=cD h;obtain⟨_,_,q,hz,hq⟩:=fD (h (zm S O));obtain⟨vs',n,g,rfl⟩:=nO S O q;rw[ef] at hq hz;exact call_len_list (bK g) (by rw[ie];unfold big at hz;lia) ((S.toks _).ok hq)
theorem PM{a:Va}(S:St c l P s)(h:bD .abs [ab a] P Q):wpAny (MM wd) A (call (.builtin "abs") [a]) (Ok c l Q) E s:=by
 obtain⟨i,t,rfl,h⟩:=dM h;refine call_abs_int λu tk=>(S.toks _).ok ?_;have e:(if i<0 then -i else i)=(i.natAbs:Int):=by split<;>lia
 rw[e];exact h
theorem PN{a:Va}(S:St c l P s)(h:bD .int [ab a] P Q):wpAny (MM wd) A (call (.type "int") [a]) (Ok c l Q) E s:=by obtain⟨b,rfl,h⟩:=L6 h;exact call_int_bool ((S.toks _).ok h)
set_option tactic.hygienic true in
theorem GF:∀{vs:List Va} {i:Int},zM (vs.map ab)=some i->∃ ns,IntsAre vs ns/\ns.sum=i:=by
 intro rr;induction rr with
 | nil=>exact @λi h=>⟨[],.nil,kr h⟩
 | cons v r ih=>
  intro i h;cases v<;>first|exact bB h|exact HZ h|exact gR h|exact lH h|skip
  rename_i x t;replace h:(zM (r.map ab)).map (x+·)=some i:=h;cases q:zM (r.map ab) with
  | none=>rw[q] at h;cases h
  | some j=>rw[q] at h;obtain⟨ns,h1,h2⟩:=ih q;exact⟨x::ns,.cons x t h1,by rw[List.sum_cons,h2];exact kr h⟩
theorem PX{a:Va}(S:St c l P s)(h:bD .sum [ab a] P Q)(hh:A.handled=none):wpAny (MM wd) A (call (.builtin "sum") [a]) (Ok c l Q) E s:=by
 obtain⟨x,rfl,h⟩:=cD h;obtain⟨_,_,q,hz,hq⟩:=fD h;obtain⟨i,hi,hq⟩:=qw hq;obtain⟨vs',n,g,rfl⟩:=eV S q;obtain⟨ns,h1,rfl⟩:=GF hi;obtain⟨xs,e⟩:=h1.allInts.items;have hl:=bK g;rw[e] at hl;refine sum_intListG hh hl λh' tk t' hk=>⟨P,S.kept hk,?_⟩
 have:preSum (numAt xs) xs.size=ns.sum:=by rw[preSum_eq,List.take_of_length_le (by simp)];have:=h1.numsOf;rw[show vs'=vs'.toArray.toList from rfl,e,nums_intItems] at this;rw[this]
 rw[this];exact hq
theorem FU{a:Va}(S:St c l P s)(O:bM c)(h:bD .jD [ab a] P Q)(hh:A.handled=none):wpAny (MM wd) A (call (.type "list") [a]) (Ok c l Q) E s:=by
 obtain⟨x,rfl,h⟩:=cD h;rcases EN h with⟨_,_,q,hz,hq⟩|⟨_,q,hz,hq⟩|⟨_,_,q,hz,hq⟩
 ·obtain⟨vs',n,g,rfl⟩:=eV S q
  rw[ef] at hz;exact call_list_seq x (.inl rfl) g rfl rfl (λh' c' hk e=>S.made (t:=s.toks) (o:=.list (0,0) (vs'.map ab)) hk (f7 _) e rfl (λF d e=>⟨vs',c',e,rfl⟩) hq) (dO hz)
 ·obtain⟨vs',n,g,rfl⟩:=mX S q
  rw[ef] at hz;exact call_list_seq x (.inr rfl) g rfl rfl (λh' c' hk e=>S.made (t:=s.toks) (o:=.list (0,0) (vs'.map ab)) hk (f7 _) e rfl (λF d e=>⟨vs',c',e,rfl⟩) hq) (dO hz)
 ·obtain⟨lo,ob,kvs',g,hd,rfl⟩:=iC S O q
  have hD:=Heap.dictOf_iff.mpr ⟨ob,g,hd⟩;obtain⟨ep,hat⟩:=hD.dictAt;refine kdl_call (kdl_dict (knd:=strKind pw wd) (kvs:=kvs') (ep:=ep) lo) hh hat (dO (by simpa using hz)) λh' tk acc c' hk e hi=>?_;refine S.made (t:=tk) (o:=.list (0,0) ((kvs'.map kP).map λe=>.str e.1 0)) hk (f7 _) e rfl (λF d e=>⟨acc.toList,c',by simpa using e,?_⟩) hq;obtain⟨h1,h2⟩:=hi;refine List.ext_getElem? λj=>?_;simp only[ir,gj];by_cases hj:j<kvs'.length
  ·have hj':j<acc.size:=by lia
   have ea:acc[j]?=some acc[j]:=Array.getElem?_eq_getElem hj';obtain⟨k,x,q1,q2⟩:=h2 j _ ea;obtain⟨t,q3⟩:=Value.isStrOf_shape q2;rw[q1,show acc.toList[j]?=acc[j]? by simp,ea,q3];rfl
  ·rw[ji (by simp;lia),ji (by lia)]
   rfl
theorem FP{a:Va}(S:St c l P s)(O:bM c)(h:bD .o5 [ab a] P Q):wpAny (MM wd) A (call (.type "dict") [a]) (Ok c l Q) E s:=by obtain⟨x,rfl,h⟩:=cD h;obtain⟨_,_,q,hz,hq⟩:=iP h;obtain⟨lo,ob,kvs',g,hd,rfl⟩:=iC S O q;rw[ef] at hz;refine kt_call_dict lo (Heap.dictOf_iff.mpr ⟨ob,g,hd⟩) (dO hz) λh' hd' hs=>?_;obtain⟨o',e1,e2⟩:=Heap.dictOf_iff.mp hd';have hk:gU s.heap h':=λb o e=>(hs.2 b (gq (fy e))).trans (ek _ e);exact S.made (t:=s.toks) (o:=.dict (0,0) (kvs'.map kP)) hk (f7 _) e1 rfl (λF d e=>⟨⟨o',kvs',e,e2,rfl⟩,λz=>absurd z ()⟩) hq
theorem Jw{env:Env}{pos:Pos}(S:St c l P s)(h:bD .iM [] P Q):wpAny (MM wd) A (eval (.Dict [] [] pos) env) (Ok c l Q) E s:=by refine wpAny_Dict_empty ?_;obtain⟨o',e1,e2⟩:=Heap.dictOf_iff.mp (Heap.DictOf.new (knd:=strKind pw wd) s.heap);exact S.made (t:=s.toks) (o:=.dict (0,0) []) cN (f7 _) e1 rfl (λF d e=>⟨⟨o',[],e,e2,rfl⟩,λz=>absurd z ()⟩) h
theorem pB{o i v:Va}{Q':Unit->Sh->Prop}{R:PH->Prop}(S:St c l P s)(O:bM c)(h:pO (ab o) (ab i) (ab v) P R)(hQ:∀ P' s',St c l P' s'->R P'->Q' ⟨⟩ s'):wpAny (MM wd) A (setItem o i v) Q' E s:=by
 obtain⟨a,rfl,h⟩:=cD h;rcases pV h with⟨i,t,rfl,h⟩|⟨k,t,rfl,h⟩|⟨_,_,h⟩
 ·obtain⟨_,_,q,⟨h1,h2,h3⟩,hr⟩:=fD h
  obtain⟨vs',n,g,rfl⟩:=eV S q;rw[ef] at h2 h3;have hs:Heap.SameBut a s.heap (s.heap.update a (Obj.mapSeq (·.setIfInBounds i.toNat v))):=Heap.SameBut.update ..;obtain⟨n',e⟩:=vo (n:=n) (vs:=vs') (us:=vs'.set i.toNat v) (·.setIfInBounds i.toNat v) (by simp);refine ki_setAt g h1 ?_ (by simp;lia) (hQ _ _ (S.set (s':={ s with heap:=s.heap.update a (Obj.mapSeq (·.setIfInBounds i.toNat v)) }) (o':=.list _ ((vs'.map ab).set i.toNat (ab v))) (vP hs) ⟨vQ hs,rfl,rfl⟩ q rfl rfl λF dd=>⟨vs'.set i.toNat v,n',(g9 _ g (by rw[e];rfl)).trans (aj some e),by simp⟩) hr);unfold big at h3;lia
 ·obtain⟨_,_,q,hz,hr⟩:=iP h
  obtain⟨lo,ob,kvs',g,hd,rfl⟩:=iC S O q;rw[ef] at hz;have hD:=Heap.dictOf_iff.mpr ⟨ob,g,hd⟩;have nd:(kvs'.map (·.1)).Nodup:=let ⟨_,_,_,_,_,_,_,_,hn⟩:=hD;hn;rw[Pb k v kvs' nd] at hr;refine wpAny_setItem_pairs (bz _ wd k t) hD (λh' hm hs=>?_) (dO hz);obtain⟨o',e1,e2⟩:=Heap.dictOf_iff.mp hm;exact hQ _ _ (S.set (o':=.dict (0,0) ((stored kvs' k v).map kP)) (vP hs) ⟨vQ hs,rfl,rfl⟩ q rfl rfl λF dd=>⟨⟨o',_,e1,e2,rfl⟩,λz=>absurd z ()⟩) hr
 ·exact ck h
theorem JE{a:Va}(S:St c l P s)(h:bD .upper [ab a] P Q):wpAny (MM wd) A (call (.builtin "str.upper") [a]) (Ok c l Q) E s:=by obtain⟨x,t,rfl,rfl,hq⟩:=iQ h;refine SC.upper ⋯ ((S.toks _).ok ?_);have:Txt.upper "abcdefghijklmnopqrstuvwxyz"="ABCDEFGHIJKLMNOPQRSTUVWXYZ":=⋯;rw[this];exact hq
theorem JB{a b:Va}(S:St c l P s)(h:bD .split [ab a,ab b] P Q):wpAny (MM wd) A (call (.builtin "str.split") [a,b]) (Ok c l Q) E s:=by
 obtain⟨x,t,rfl,h⟩:=iQ h;obtain⟨y,u,rfl,⟨rfl,hx⟩,hq⟩:=iQ h;have h1:(decide (x.length<Str.length "::")||decide (Builtin.Str.strKind x<Builtin.Str.strKind "::"))=true:=by rcases hx with rfl|rfl<;>decide +kernel
 exact call_meets PySem.F.slot_str_split (typeIs_str _ _ _) PySem.F.entry_str_split (PySem.F.args_str_split_2 _ _) (meets_str_split_cannot_occur x "::" t u h1)
  (S.made (t:=s.toks) (o:=.list (0,0) [.str x 0]) cN (f7 _) (fj _ rfl) rfl (λF d e=>⟨[.str x t],0,e,rfl⟩) hq)
theorem vK{value slice:Expr}{vl vu vk:Va}{lo hi st:Op Int}{ops:List Va}{a:Ad}{vs us:List Va}{n:Nat}(S:St c l P s)(g:s.heap.get? a=some (W.listOf vs.toArray n))(hz:vs.length<big)
  (pl:IsPart vl lo) (pu:IsPart vu hi) (pk:IsPart vk st) (h0:st≠some 0) (e:slicePick vs.toArray lo hi st=us.toArray) (hq:cG P (.list (0,0) (us.map ab)) Q)
  (hs:subscripted slice false (.ref a) (.ref s.heap.objs.size)=operate ops (getItem (.ref a) (.ref s.heap.objs.size))):
  wpAny (MM wd) A (subscriptTail value slice (.ref a) (.ref s.heap.objs.size)) (Ok c l Q) E { s with heap:=s.heap.push { cls:=.type "slice",data:=.fields #[vl,vu,vk] } }:=by
 have hl:=(bK g).push { cls:=.type "slice",data:=.fields #[vl,vu,vk] };refine kL (Heap.IsList.typeIs (s:={ s with heap:=s.heap.push { cls:=.type "slice",data:=.fields #[vl,vu,vk] } }) hl) PySem.F.slot_list_getitem.lookup
  (wpAny_getItem_list_slice hl (Heap.IsSliceOf.new ..) pl pu pk h0 ?_ (by rw[ie];exact dO hz)) hs
 have k:gU s.heap ((s.heap.push { cls:=.type "slice",data:=.fields #[vl,vu,vk] }).push { cls:=.type "list",data:=.seq (slicePick vs.toArray lo hi st) }):=λb o q=>cN _ _ (cN _ _ q);refine S.made (t:=s.toks) (o:=.list (0,0) (us.map ab)) k ?_ (fj _ rfl) rfl (λF d q=>⟨us,0,?_,rfl⟩) hq
 ·rw[jc];exact ki _
 ·rw[q,e]
theorem PW{value slice:Expr}{o vk:Va}(S:St c l P s)(h:bD .rev [ab o] P Q)(pk:IsPart vk (some (-1)))
  (hs:∀ o i,subscripted slice false o i=operate [o,i] (getItem o i)):
  wpAny (MM wd) A (subscriptTail value slice o (.ref s.heap.objs.size)) (Ok c l Q) E { s with heap:=s.heap.push { cls:=.type "slice",data:=.fields #[.none,.none,vk] } }:=by obtain⟨x,rfl,h⟩:=cD h;obtain⟨_,_,q,hz,hq⟩:=fD h;obtain⟨vs',n,g,rfl⟩:=eV S q;rw[ef] at hz;exact vK (us:=vs'.reverse) S g hz .none .none pk () (krv_pick _) (by rw[jl];exact hq) (hs _ _)
theorem Mj{value slice:Expr}{o k:Va}(S:St c l P s)(O:bM c)(h:bD .upto [ab o,ab k] P Q)
  (hs:∀ o i,subscripted slice false o i=operate [i,o] (getItem o i)):
  wpAny (MM wd) A (subscriptTail value slice o (.ref s.heap.objs.size)) (Ok c l Q) E { s with heap:=s.heap.push { cls:=.type "slice",data:=.fields #[.none,k,.none] } }:=by obtain⟨x,rfl,h⟩:=cD h;obtain⟨k,t,rfl,h⟩:=dM h;obtain⟨_,_,q,⟨hz,h1,h2⟩,hq⟩:=fD (h (zm S O));obtain⟨vs',n,g,rfl⟩:=nO S O q;rw[ef] at hz;obtain⟨j,rfl⟩:=Int.eq_ofNat_of_zero_le h1;exact vK (us:=vs'.take j) S g hz .none (.int _ _) .none () (slicePick_upto' _ j) (by rw[List.map_take];exact hq) (hs _ _)
theorem Jx{value slice:Expr}{o:Va}{t:Tok}(S:St c l P s)(h:bD .AO [ab o] P Q)
  (hs:∀ o i,subscripted slice false o i=operate [i,o] (getItem o i)):
  wpAny (MM wd) A (subscriptTail value slice o (.ref s.heap.objs.size)) (Ok c l Q) E { s with heap:=s.heap.push { cls:=.type "slice",data:=.fields #[.int 1 t,.none,.none] } }:=by
 rcases pV h with⟨_,_,_,h⟩|⟨x,u,rfl,hx,hq⟩|⟨x,rfl,h⟩
 ·exact ck h
 ·refine kL (typeIs_str _ x u) PySem.F.slot_str_getitem.lookup (wpAny_getItem_str_slice (l:=some (1,t)) (u:=none) (st:=none) ⟨_,fj _ rfl,rfl,rfl⟩ rfl ?_) (hs _ _)
  have:sliceMade x u (some (1,t)) none none=.str "":=by rcases hx with rfl|rfl<;>rfl
  rw[this];exact⟨⋯,⟨P,S.kept cN,hq⟩⟩
 ·obtain⟨_,_,q,hz,hq⟩:=fD h
  obtain⟨vs',n,g,rfl⟩:=eV S q;rw[ef] at hz;exact vK (us:=vs'.drop 1) S g hz (.int _ _) .none .none () (slicePick_from' _ 1) (by rw[List.map_drop];exact hq) (hs _ _)
section
section
open PySem.SeqAt
theorem of_rc{a b:Va}{k:Bool}{Q':VS}(h:RcAt A s a b k)(hq:Q' (.bool k) s):wpAny (MM wd) A (compareOp .Eq a b) Q' E s:=h _ wd E Q' hq
theorem of_rcne{a b:Va}{k:Bool}{Q':VS}(h:RcNeAt A s a b k)(hq:Q' (.bool k) s):wpAny (MM wd) A (compareOp .NotEq a b) Q' E s:=h _ wd E Q' hq
theorem tH{α:Type}[BEq α][LawfulBEq α][DecidableEq α](a b:α):decide (a=b)=(a==b):=by by_cases h:a=b<;>simp [h]
inductive B4:Va->Va->Bool->Prop
 | nn:B4 .none .none true
 | ni (i t):B4 .none (.int i t) false
 | ns (x t):B4 .none (.str x t) false
 | bb (a b):B4 (.bool a) (.bool b) (a==b)
 | jn (i t):B4 (.int i t) .none false
 | ii (i t j u):B4 (.int i t) (.int j u) (i==j)
 | js (i t x u):B4 (.int i t) (.str x u) false
 | sn (x t):B4 (.str x t) .none false
 | si (x t i u):B4 (.str x t) (.int i u) false
 | ss (x t y u):B4 (.str x t) (.str y u) (x==y)
theorem Rg{i:Int}{t:Tok}{b:Va}{r:Bool}(h:U0 i (ab b)=some r):B4 (.int i t) b r:=by
 cases b<;>first|cases h;done|skip
 ·cases h;exact .jn ..
 ·cases h;rw[tH];exact .ii ..
 ·cases h;exact .js ..
theorem Ri{i:Str}{t:Tok}{b:Va}{r:Bool}(h:U1 i (ab b)=some r):B4 (.str i t) b r:=by
 cases b<;>first|cases h;done|skip
 ·cases h;exact .sn ..
 ·cases h;exact .si ..
 ·cases h;rw[tH];exact .ss ..
theorem Np{i:Bool}{b:Va}{r:Bool}(h:eqB i (ab b)=some r):B4 (.bool i) b r:=by
 cases b<;>first|cases h;done|skip
 cases h;exact .bb ..
theorem Rh{b:Va}{r:Bool}(h:Ub (ab b)=some r):B4 .none b r:=by
 cases b<;>first|cases h;done|skip
 ·cases h;exact .nn
 ·cases h;exact .ni ..
 ·cases h;exact .ns ..
theorem Nq{a b:Va}{r:Bool}(h:eqv (ab a) (ab b)=some r):B4 a b r:=by cases a<;>first|cases h;done|exact Rh h|exact Np h|exact Rg h|exact Ri h
theorem OG{a b:Va}{r:Bool}(h:eqv (ab a) (ab b)=some r):RcAt A s a b r:=by
 cases Nq h with
 | nn=>exact RcAt.none_none
 | ni=>exact RcAt.none_int _ _
 | ns=>exact RcAt.none_str _ _
 | bb=>exact RcAt.bool_bool _ _
 | jn=>exact RcAt.int_none _ _
 | ii=>exact RcAt.int_int _ _ _ _
 | js=>exact RcAt.int_str _ _ _ _
 | sn=>exact RcAt.str_none _ _
 | si=>exact RcAt.str_int _ _ _ _
 | ss=>exact RcAt.str_str _ _ _ _
theorem Ib{a b:Va}{r:Bool}(h:eqv (ab a) (ab b)=some r):RcNeAt A s a b (!r):=by
 cases Nq h with
 | nn=>exact RcNeAt.none_none
 | ni=>exact RcNeAt.none_int _ _
 | ns=>exact RcNeAt.none_str _ _
 | bb=>exact RcNeAt.bool_bool _ _
 | jn=>exact RcNeAt.int_none _ _
 | ii=>exact RcNeAt.int_int _ _ _ _
 | js=>exact RcNeAt.int_str _ _ _ _
 | sn=>exact RcNeAt.str_none _ _
 | si=>exact RcNeAt.str_int _ _ _ _
 | ss=>exact RcNeAt.str_str _ _ _ _
theorem Sf{a b:Va}(S:St c l P s)(h:bD .eq [ab a,ab b] P Q):wpAny (MM wd) A (compareOp .Eq a b) (Ok c l Q) E s:=by obtain⟨r,hr,h⟩:=ny h;exact of_rc (OG hr) (S.ok h)
theorem OF{a b:Va}{r:Bool}(h:Rj (ab a) (ab b)=some r):EqAt A s a b r:=by
 cases a<;>first|cases h;done|skip
 ·cases Np h;exact EqAt.bool_bool _ _
 ·cases b<;>first|cases h;done|skip
  cases h;rw[tH];exact EqAt.int_int _ _ _ _
 ·cases b<;>first|cases h;done|skip
  cases h;rw[tH];exact EqAt.str_str _ _ _ _
noncomputable def Rf(vs us:List Va)(j:Nat):Bool:=((vs[j]?).bind λa=>(us[j]?).bind λb=>Rj a b).getD false
theorem uQ:∀{vs us:List Va} {r:Bool},o8 vs us=some r->vs.length=us.length/\(∀ j a b,vs[j]?=some a->us[j]?=some b->Rj a b=some (Rf vs us j))/\(List.range vs.length).all (Rf vs us)=r:=by
 intro vs;induction vs with
 | nil=>
  intro us r h;cases us with
  | nil=>exact⟨rfl,λj a b h1=>bB h1,kr h⟩
  | cons b bs=>exact bB h
 | cons a as ih=>
  intro us r h;cases us with
  | nil=>exact bB h
  | cons b bs=>
  refine aN h λx hx h=>dK h λy hy h=>?_;have⟨h1,h2,h3⟩:=ih hy;have e0:Rf (a::as) (b::bs) 0=x:=by show(Rj a b).getD false=x;rw[hx];rfl
  refine⟨aj (·+1) h1,λj c d hc hd=>?_,?_⟩
  ·cases j with
   | zero=>obtain rfl:=kr hc;obtain rfl:=kr hd;rw[e0];exact hx
   | succ j=>exact h2 j c d hc hd
  ·rw[i9,List.range_succ_eq_map,List.all_cons,List.all_map,e0]
   show(x&&(List.range as.length).all (Rf as bs))=r;rw[h3];exact h
theorem Ny{vs us:List Va}{r:Bool}(h:o8 (vs.map ab) (us.map ab)=some r):∀ j (h1:j<vs.toArray.size) (h2:j<us.toArray.size),EqAt A s vs.toArray[j] us.toArray[j] (Rf (vs.map ab) (us.map ab) j):=λj h1 h2=>by obtain⟨_,q,_⟩:=uQ h;rw[ie] at h1 h2;exact OF (q j (ab vs[j]) (ab us[j]) (by simp [h1]) (by simp [h2]))
theorem Bc{o:Op PO}{r:Bool}(h:Ji o=some r):(∃ vs,o=some (.tup vs))/\r=true:=by
 obtain _|o:=o
 ·cases h
 ·cases o<;>first|cases h;done|exact⟨⟨_,rfl⟩,(kr h).symm⟩
theorem LR{o p:Op PO}{r:Bool}(h:PD o p=some r):(∃ t vs,o=some (.list t vs)/\PC vs p=some r)\/∃ vs,o=some (.tup vs)/\PE vs p=some r:=by
 obtain _|o:=o
 ·cases h
 ·cases o<;>first|cases h;done|exact .inl ⟨_,_,rfl,h⟩|exact .inr ⟨_,rfl,h⟩
theorem Jh{p:Op PO}{vs:List Va}{r:Bool}(h:PC vs p=some r):∃ t us,p=some (.list t us)/\(if vs.length=us.length then(o8 vs us).map (!·) else some true)=some r:=by
 obtain _|o:=p
 ·cases h
 ·cases o<;>first|cases h;done|exact⟨_,_,rfl,h⟩
theorem Jj{p:Op PO}{vs:List Va}{r:Bool}(h:PE vs p=some r):∃ us,p=some (.tup us)/\(o8 vs us).map (!·)=some r:=by
 obtain _|o:=p
 ·cases h
 ·cases o<;>first|cases h;done|exact⟨_,rfl,h⟩
theorem LS{a b:Va}{r:Bool}(h:Ve P (ab a) (ab b)=some r):(eqv (ab a) (ab b)).map (!·)=some r\/(∃ x y,a=.ref x/\b=.ref y/\PD (P x) (P y)=some r)\/(∃ x,a=.ref x/\b=.none/\Ji (P x)=some r)\/∃ x,a=.none/\b=.ref x/\Ji (P x)=some r:=by
 cases a<;>first|exact .inl h|skip
 ·cases b<;>first|exact .inl h|exact .inr (.inr (.inr ⟨_,rfl,rfl,h⟩))
 ·cases b<;>first|cases h;done|exact .inr (.inl ⟨_,_,rfl,rfl,h⟩)|exact .inr (.inr (.inl ⟨_,rfl,rfl,h⟩))
theorem Sl{a b:Va}(S:St c l P s)(h:bD .ne [ab a,ab b] P Q)(hu:A.units<cLine):wpAny (MM wd) A (compareOp .NotEq a b) (Ok c l Q) E s:=by
 obtain⟨r,hr,h⟩:=ny h;rcases LS hr with hr|⟨x,y,rfl,rfl,hr⟩|⟨x,rfl,rfl,hr⟩|⟨x,rfl,rfl,hr⟩
 ·obtain⟨x,q,rfl⟩:=dw hr
  exact of_rcne (Ib q) (S.ok h)
 ·rcases LR hr with⟨_,_,q1,hr⟩|⟨_,q1,hr⟩
  ·obtain⟨_,_,q2,hr⟩:=Jh hr
   obtain⟨vs',n,g1,rfl⟩:=eV S q1;obtain⟨us',n2,g2,rfl⟩:=eV S q2;simp only[ef] at hr;by_cases hl:vs'.length=us'.length
   ·rw[ai hl] at hr
    obtain⟨z,q,rfl⟩:=dw hr;obtain⟨_,_,h3⟩:=uQ q;refine of_rcne (RcNeAt.lists (bK g1) (bK g2) (by exact hl) hu (Ny q)) (S.ok ?_);rw[ef] at h3;simp only[ie,h3];exact h
   ·rw[aa hl] at hr
    cases hr;exact of_rcne (RcNeAt.lists_lengths (bK g1) (bK g2) (by simpa using hl) hu) (S.ok h)
  ·obtain⟨_,q2,hr⟩:=Jj hr
   obtain⟨vs',n,g1,rfl⟩:=mX S q1;obtain⟨us',n2,g2,rfl⟩:=mX S q2;obtain⟨z,q,rfl⟩:=dw hr;obtain⟨h1,_,h3⟩:=uQ q;rw[ef,ef] at h1;refine of_rcne (RcNeAt.tuples (k7 g1) (k7 g2) hu (Ny q)) (S.ok ?_);rw[ef] at h3;simp only[ie,<-h1,Nat.min_self,h3,bg,Bool.and_true];exact h
 ·obtain⟨⟨_,q1⟩,rfl⟩:=Bc hr
  obtain⟨vs',n,g1,rfl⟩:=mX S q1;exact of_rcne (RcNeAt.tuple_none (k7 g1) hu) (S.ok h)
 ·obtain⟨⟨_,q1⟩,rfl⟩:=Bc hr
  obtain⟨vs',n,g1,rfl⟩:=mX S q1;exact of_rcne (RcNeAt.none_tuple (k7 g1) hu) (S.ok h)
structure GY(K:Frag):Prop where
 own:∀ C,(eX.lookup C).isSome=true->plainGet K C "__class__"=true/\hasDictIn K C=true/\findIn K (.ref C) "__class__"=some (some (.builtin "object.__class__"))/\mroIn K C (.type "object")=some true
 g1:specialIn K (.builtin "object.__class__") "__get__"=some (some (.builtin "getset_descriptor.__get__"))
 g2:takesIn K (.builtin "object.__class__")=some true
 cls:∀ C B,(eX.lookup C).isSome=true->DJ B=true->kitOne K (.ref C) (.ref B)=some (lJ C B)
 num:∀ C,(eX.lookup C).isSome=true->kitOne K (.ref C) (.type "bool")=some false/\kitOne K (.ref C) (.type "int")=some false/\kitOne K (.ref C) (.type "str")=some false
 pri:∀ B,DJ B=true->kitOne K (.type "int") (.ref B)=some false/\kitOne K (.type "str") (.ref B)=some false/\kitOne K (.type "bool") (.ref B)=some false/\kitOne K (.type "NoneType") (.ref B)=some false
 nn:kitOne K (.type "NoneType") (.type "bool")=some false/\kitOne K (.type "NoneType") (.type "int")=some false/\kitOne K (.type "NoneType") (.type "str")=some false
 bn:kitOne K (.type "bool") (.type "bool")=some true/\kitOne K (.type "bool") (.type "int")=some true/\kitOne K (.type "bool") (.type "str")=some false
 ii:kitOne K (.type "int") (.type "bool")=some false/\kitOne K (.type "int") (.type "int")=some true/\kitOne K (.type "int") (.type "str")=some false
 ss:kitOne K (.type "str") (.type "bool")=some false/\kitOne K (.type "str") (.type "int")=some false/\kitOne K (.type "str") (.type "str")=some true
theorem AR{C a:Ad}{fs:List (Nat × Va)}(I:GY K)(S:St c l P s)(hP:P a=some (.inst C fs))(hC:(eX.lookup C).isSome=true):∃ ox od,KitX K (.ref a) (.ref C) (λh=>InstAt h a ox C (some od))/\InstAt s.heap a ox C (some od):=by obtain⟨m,G,D,S⟩:=S;obtain⟨es,n,hr,hd,J⟩:=(S.sat.rel a _ hP).2.yV;obtain⟨h1,h2,h3,h4⟩:=I.own C hC;exact⟨_,_,kitx_own h1 h2 h3 I.g1 I.g2 h4,J⟩
theorem FT{a:Va}{B:Ad}(I:GY K)(S:St c l P s)(O:bM c)(h:bD (.bZ B) [ab a] P Q):wpAny (MM wd) A (call (.builtin "isinstance") [a,.ref B]) (Ok c l Q) E s:=by
 obtain⟨hB,h⟩:=h;have X:K.In s.heap:=by obtain⟨m,G,D,S⟩:=S;exact O.X.keeps S.sat.stay
 obtain⟨p1,p2,p3,p4⟩:=I.pri B hB;rcases DF h with⟨rfl,h⟩|⟨_,rfl,h⟩|⟨_,_,rfl,h⟩|⟨_,_,rfl,h⟩|⟨x,rfl,h⟩
 ·exact bk kitx_none X trivial p4 (λq=>nomatch q) λtk=>(S.toks _).ok h
 ·exact bk kitx_bool X trivial p3 (λq=>nomatch q) λtk=>(S.toks _).ok h
 ·exact bk kitx_int X trivial p1 (λq=>nomatch q) λtk=>(S.toks _).ok h
 ·exact bk kitx_str X trivial p2 (λq=>nomatch q) λtk=>(S.toks _).ok h
 ·obtain⟨_,_,q,h1,h2⟩:=Ej h
  obtain⟨ox,od,Z,J⟩:=AR I S q h1;exact bk Z X J (I.cls _ B h1 hB) (λq=>nomatch q) λtk=>(S.toks _).ok h2
theorem Jz{a:Va}{t:String}(I:GY K)(S:St c l P s)(O:bM c)(ht:t="bool"\/t="int"\/t="str")(h:bD (.jM t) [ab a] P Q):wpAny (MM wd) A (call (.builtin "isinstance") [a,.type t]) (Ok c l Q) E s:=by
 have X:K.In s.heap:=by obtain⟨m,G,D,S⟩:=S;exact O.X.keeps S.sat.stay
 rcases DF h with⟨rfl,h⟩|⟨_,rfl,h⟩|⟨_,_,rfl,h⟩|⟨_,_,rfl,h⟩|⟨x,rfl,h⟩
 ·rcases ht with rfl|rfl|rfl
  ·exact bk kitx_none X trivial I.nn.1 (λq=>nomatch q) λtk=>(S.toks _).ok h
  ·exact bk kitx_none X trivial I.nn.2.1 (λq=>nomatch q) λtk=>(S.toks _).ok h
  ·exact bk kitx_none X trivial I.nn.2.2 (λq=>nomatch q) λtk=>(S.toks _).ok h
 ·rcases ht with rfl|rfl|rfl
  ·exact bk kitx_bool X trivial I.bn.1 (λq=>nomatch q) λtk=>(S.toks _).ok h
  ·exact bk kitx_bool X trivial I.bn.2.1 (λq=>nomatch q) λtk=>(S.toks _).ok h
  ·exact bk kitx_bool X trivial I.bn.2.2 (λq=>nomatch q) λtk=>(S.toks _).ok h
 ·rcases ht with rfl|rfl|rfl
  ·exact bk kitx_int X trivial I.ii.1 (λq=>nomatch q) λtk=>(S.toks _).ok h
  ·exact bk kitx_int X trivial I.ii.2.1 (λq=>nomatch q) λtk=>(S.toks _).ok h
  ·exact bk kitx_int X trivial I.ii.2.2 (λq=>nomatch q) λtk=>(S.toks _).ok h
 ·rcases ht with rfl|rfl|rfl
  ·exact bk kitx_str X trivial I.ss.1 (λq=>nomatch q) λtk=>(S.toks _).ok h
  ·exact bk kitx_str X trivial I.ss.2.1 (λq=>nomatch q) λtk=>(S.toks _).ok h
  ·exact bk kitx_str X trivial I.ss.2.2 (λq=>nomatch q) λtk=>(S.toks _).ok h
 ·obtain⟨_,_,q,h1,h2⟩:=Ej h
  obtain⟨ox,od,Z,J⟩:=AR I S q h1;obtain⟨n1,n2,n3⟩:=I.num _ h1;rcases ht with rfl|rfl|rfl
  ·exact bk Z X J n1 (λq=>nomatch q) λtk=>(S.toks _).ok h2
  ·exact bk Z X J n2 (λq=>nomatch q) λtk=>(S.toks _).ok h2
  ·exact bk Z X J n3 (λq=>nomatch q) λtk=>(S.toks _).ok h2
end
end
section
open PySem.Builtin
section
variable{K:Frag}
theorem EA{h:Heap}:Looks (model pw wd) h (typeOf (.type "ValueError")) (.type "type"):=Looks.of_pure (by kernel_rfl)
theorem GR{pl:Sem Bool}{Q:Va × List Va->Sh->Prop}(X:K.In s.heap)(h:Q (.builtin "ValueError.__init__",[]) { s with toks:=s.toks+1 }):wpAny (model pw wd) A (getMethod (.type "ValueError") "__init__" pl) Q E s:=by
 have hg:Looks (model pw wd) s.heap (specialOf (.type "ValueError") "__getattribute__") (some (.builtin "type.__getattribute__")):=EA.andThen (Looks.of_pure PySem.W.KF.slot_tga.lookup);unfold getMethod;refine af (hg.here ?_);dsimp only;rw[ai canon_tga];refine af (ak (Q:=λv s'=>v=.builtin "ValueError.__init__"/\s'={ s with toks:=s.toks+1 }) ?_ (λv s' z=>by obtain⟨rfl,rfl⟩:=z;exact aq h) λq q z=>z);refine cls_open (mc:=.type "type") (hook:=none) X ?_ EA (by kernel_rfl) (looks_hook X (by rfl)) (by kernel_rfl) (r:=.val (.builtin "ValueError.__init__")) (by kernel_rfl) ?_
 ·exact Looks.of_pure (by kernel_rfl)
 ·exact aq (by show wpAny _ _ (handedOut _) _ _ _;rw[handedOut_of (by kernel_rfl)];exact aq ⟨rfl,rfl⟩)
end
variable{h:Heap}{g:Array GenState}{d:Drawn}{t:Nat}{os:OsState}
theorem wO{M:Model}{e:Ad}{oe:Obj}{rest:List Va}{Q:Unit->Sh->Prop}
  (hC:fH h) (he:h.get? e=some oe) (hcls:oe.cls=.ref 785) (hq:Q ⟨⟩ ⟨h,g,d,t,os⟩):
  wpAny M A (checkBuiltinCall "ValueError.__init__" ⟨.ref e::rest,[]⟩) Q E ⟨h,g,d,t,os⟩:=by
 have hC:h.get? 785=some KC:=hC;have F:=jf;have hcB:(Value.ref 785::kX).contains (.type "ValueError")=true:=by decide
 have hshort:=F.noStar;have h1:=F.initKind;have h2:=F.initSplit;have h3:=F.initRow;clear F;delta checkBuiltinCall;generalize builtinKind "ValueError.__init__"=k1 at h1 ⊢;generalize splitId "ValueError.__init__"=k2 at h2 ⊢;generalize Manifest.signature? "ValueError.__init__"=k3 at h3 ⊢;subst h3 h1 h2;dsimp only
 repeat (first|(with_reducible refine bh he ?_;rw[hcls])|with_reducible refine bh hC ?_|(with_reducible refine b8 hC ?_;rw[hcB])|wp_step)
 refine wpAny_onRaise ?_;rw[show ∀(a b:String) (n:Nat),Bind.check ⟨.positional,"*","ValueError",.self,[⟨"args",.varPos,false⟩]⟩ a b n (List.map (λx=>x.fst) ({ pos:=Value.ref e::rest }:Args).kw)=pure ⟨⟩ from
  λa b n=>check_star_args _ _ _ _ _ _]
 exact aq hq
theorem yG{e t0:Ad}{rest:List Va}{Q:VS}(hC:fH h)(he:h.get? e=some (⟨.ref 785,none,fK t0,#[]⟩:Obj))(hrest:rest.length<=sizeLine)
  (hq:∀ h',(∀ b o,b≠e->h.get? b=some o->h'.get? b=some o)->h'.get? e=some (⟨.ref 785,none,fK h.objs.size,#[]⟩:Obj)->Q .none ⟨h',g,d,t,os⟩):
  wpAny (model pw wd) A (call (.builtin "ValueError.__init__") (.ref e::rest)) Q E ⟨h,g,d,t,os⟩:=by
 have F:=jf;refine wpAny_call (codeAny_call_builtin F.init.plain F.initEntry (wO hC he rfl ?_))
 wp_walk
 refine hq _ (λb o hb eb=>?_) ?_
 ·exact(ia _ _ (gz hb)).trans (ek _ eb)
 ·exact g9 _ (ek _ he) rfl
theorem FW{e:Ad}{v:Va}(hC:fH s.heap)(S:St c l P s)(hP:P e=some (.raw 785))(hQ:Q .none P):wpAny (MM wd) A (call (.builtin "ValueError.__init__") [.ref e,v]) (Ok c l Q) E s:=by
 obtain⟨m,G,D,S⟩:=S;obtain⟨hb,t0,he⟩:=S.sat.rel e _ hP;obtain⟨hp,g,d,t,os⟩:=s;refine yG hC he (by size_fits) λh' k1 k2=>⟨P,⟨m,G,D,?_⟩,hQ⟩
 have T:=S.sat.set (h':=h') (o':=.raw 785) (.iA S.sat.stay k1 hb) hP rfl rfl ⟨_,k2⟩
 have:upd P e (.raw 785)=P:=by
  funext b;unfold upd;split
  ·rename_i q;rw[q,hP]
  ·rfl
 rw[this] at T;exact S.moved T rfl rfl
end
section
structure Dr(K:Frag)(C:Ad)(name:Str)(f:Ad):Prop where
 pg:plainGet K C name=true
 fi:findIn K (.ref C) name=some (some (.ref f))
 fn:isFn K (.ref f)=true
 kp:keepIn K (.ref f)=true
noncomputable def tV(K:Frag)(C:Ad)(name:Str)(f:Ad):Bool:=plainGet K C name&&(findIn K (.ref C) name==some (some (.ref f)))&&isFn K (.ref f)&&keepIn K (.ref f)
theorem Dr.of{K:Frag}{C f:Ad}{name:Str}(h:tV K C name f=true):Dr K C name f:=by unfold tV at h;simp only[e9,az] at h;exact⟨h.1.1.1,h.1.1.2,h.1.2,h.2⟩
structure xB(K:Frag)(C f:Ad):Prop where
 V0:makesIn K C=true
 fi:findIn K (.ref C) "__init__"=some (some (.ref f))
 fn:isFn K (.ref f)=true
 kc:keepIn K (.ref C)=true
 kf:keepIn K (.ref f)=true
 ga:specialIn K (.ref C) "__getattribute__"=some (some (.builtin "type.__getattribute__"))
 ty:typeIn K (.ref C)=some (.type "type")
 rd:readsIn K C (.type "type")=true
 fc:findCls K (.ref C) (.type "type") "__init__"=some (.val (.ref f))
noncomputable def isVal(f:Ad):Op CFound->Bool
 | some (.val (.ref g))=>f==g
 | _=>false
noncomputable def tT(K:Frag)(C f:Ad):Bool:=makesIn K C&&(findIn K (.ref C) "__init__"==some (some (.ref f)))&&isFn K (.ref f)&&keepIn K (.ref C)&&keepIn K (.ref f)&&
 (specialIn K (.ref C) "__getattribute__"==some (some (.builtin "type.__getattribute__")))&&(typeIn K (.ref C)==some (.type "type"))&&readsIn K C (.type "type")&&isVal f (findCls K (.ref C) (.type "type") "__init__")
theorem AV{f:Ad}:∀{o:Op CFound},isVal f o=true->o=some (.val (.ref f))
 | none,h=>gR h
 | some (.get ..),h=>gR h
 | some (.val v),h=>by cases v<;>first|exact gR h|exact aj (λa=>some (CFound.val (Value.ref a))) (beq_iff_eq.mp h).symm
theorem xB.of{K:Frag}{C f:Ad}(h:tT K C f=true):xB K C f:=by unfold tT at h;simp only[e9,az] at h;obtain⟨⟨⟨⟨⟨⟨⟨⟨h1,h2⟩,h3⟩,h4⟩,h5⟩,h6⟩,h7⟩,h8⟩,h9⟩:=h;exact⟨h1,h2,h3,h4,h5,h6,h7,h8,AV h9⟩
structure EE(K:Frag)(C f:Ad):Prop where
 kf:keepIn K (.ref f)=true
 ga:specialIn K (.ref C) "__getattribute__"=some (some (.builtin "type.__getattribute__"))
 ty:typeIn K (.ref C)=some (.type "type")
 rd:readsIn K C (.type "type")=true
 fc:findCls K (.ref C) (.type "type") "__init__"=some (.val (.ref f))
theorem xB.cls{K:Frag}{C f:Ad}(M:xB K C f):EE K C f:=⟨M.kf,M.ga,M.ty,M.rd,M.fc⟩
noncomputable def HL(K:Frag)(C f:Ad):Bool:=keepIn K (.ref f)&&(specialIn K (.ref C) "__getattribute__"==some (some (.builtin "type.__getattribute__")))&&(typeIn K (.ref C)==some (.type "type"))&&readsIn K C (.type "type")&&isVal f (findCls K (.ref C) (.type "type") "__init__")
theorem EE.of{K:Frag}{C f:Ad}(h:HL K C f=true):EE K C f:=by unfold HL at h;simp only[e9,az] at h;obtain⟨⟨⟨⟨h1,h2⟩,h3⟩,h4⟩,h5⟩:=h;exact⟨h1,h2,h3,h4,AV h5⟩
structure QK(K:Frag):Prop where
 exc:r8 K
 cls:K.lookup 785=some KC
 xi:findIn K (.ref 785) "__init__"=some (some (.ref 782))
 xf:typeIn K (.ref 782)=some (.type "function")
 U4:EE K 765 762
theorem QK.at_{K:Frag}(e:QK K){h:Heap}(X:K.In h):fH h:=X _ _ e.cls
structure pP(K:Frag):Prop where
 fld:∀ C x,gS C x=true->kY K C x=true
 V2:∀ C m f,bO C m=some f->m≠99->Dr K C (gZ.getD m "") f
 U8:∀ C f,bO C 99=some f->xB K C f
 ins:GY K
 act:∀ a,yv.contains a=true->u9 K a=true
 ex:QK K
noncomputable def CC(K:Frag):Bool:=Im.all λe=>e.2.all λx=>kY K e.1 x
noncomputable def CP(K:Frag):Bool:=qs.all λe=>if e.1.2==99 then tT K e.1.1 e.2 else tV K e.1.1 (gZ.getD e.1.2 "") e.2
theorem lookup_mem{α β:Type}[BEq α][LawfulBEq α]{l:List (α × β)}{a:α}{b:β}(h:l.lookup a=some b):(a,b)∈l:=by
 induction l with
 | nil=>cases h
 | cons p r ih=>
  rw[f6] at h;cases q:a==p.1 with
  | true=>rw[q] at h;rw[beq_iff_eq.mp q,<-kr h];exact .head _
  | false=>rw[q] at h;exact .tail _ (ih h)
theorem OL{K:Frag}(h:CC K=true){C:Ad}{x:Nat}(hx:gS C x=true):kY K C x=true:=dK (xU hx) λl hl e=>dz (dz h _ (lookup_mem hl)) x (List.contains_iff_mem.mp e)
theorem Jc{K:Frag}(h:CP K=true){C m f:Nat}(hm:bO C m=some f):(if m==99 then tT K C f else tV K C (gZ.getD m "") f)=true:=dz h _ (lookup_mem hm)
noncomputable def uM:List Ad:=[40,62,82,181,228,256,1055]
noncomputable def Cc:List Ad:=[40,62,82,120,140,161,181,201,228]
noncomputable def yU(K:Frag):Bool:=
 (uM.all λC=>plainGet K C "__class__"&&hasDictIn K C&&(findIn K (.ref C) "__class__"==some (some (.builtin "object.__class__")))&&(mroIn K C (.type "object")==some true))&&
 (specialIn K (.builtin "object.__class__") "__get__"==some (some (.builtin "getset_descriptor.__get__")))&&(takesIn K (.builtin "object.__class__")==some true)&&
 (uM.all λC=>Cc.all λB=>kitOne K (.ref C) (.ref B)==some (lJ C B))&&
 (uM.all λC=>kitOne K (.ref C) (.type "bool")==some false&&kitOne K (.ref C) (.type "int")==some false&&kitOne K (.ref C) (.type "str")==some false)&&
 (Cc.all λB=>kitOne K (.type "int") (.ref B)==some false&&kitOne K (.type "str") (.ref B)==some false&&kitOne K (.type "bool") (.ref B)==some false&&kitOne K (.type "NoneType") (.ref B)==some false)&&
 (kitOne K (.type "NoneType") (.type "bool")==some false&&kitOne K (.type "NoneType") (.type "int")==some false&&kitOne K (.type "NoneType") (.type "str")==some false)&&
 (kitOne K (.type "bool") (.type "bool")==some true&&kitOne K (.type "bool") (.type "int")==some true&&kitOne K (.type "bool") (.type "str")==some false)&&
 (kitOne K (.type "int") (.type "bool")==some false&&kitOne K (.type "int") (.type "int")==some true&&kitOne K (.type "int") (.type "str")==some false)&&
 (kitOne K (.type "str") (.type "bool")==some false&&kitOne K (.type "str") (.type "int")==some false&&kitOne K (.type "str") (.type "str")==some true)
theorem zN{C:Ad}(h:(eX.lookup C).isSome=true):C∈uM:=by obtain⟨l,hl⟩:=cz h;have:=lookup_mem hl;simp only[eX,kh,Prod.mk.injEq,gk,or_false] at this;simp only[uM,kh,gk,or_false];rcases this with⟨rfl,_⟩|⟨rfl,_⟩|⟨rfl,_⟩|⟨rfl,_⟩|⟨rfl,_⟩|⟨rfl,_⟩|⟨rfl,_⟩<;>simp
theorem Dz{B:Ad}(h:DJ B=true):B∈Cc:=List.contains_iff_mem.mp h
theorem OW{K:Frag}(h:yU K=true):GY K:=by
 unfold yU at h;simp only[e9,az] at h;obtain⟨⟨⟨⟨⟨⟨⟨⟨⟨h1,h2⟩,h3⟩,h4⟩,h5⟩,h6⟩,h7⟩,h8⟩,h9⟩,h10⟩:=h;refine⟨λC hC=>?_,h2,h3,λC B hC hB=>?_,λC hC=>?_,λB hB=>?_,⟨h7.1.1,h7.1.2,h7.2⟩,⟨h8.1.1,h8.1.2,h8.2⟩,⟨h9.1.1,h9.1.2,h9.2⟩,⟨h10.1.1,h10.1.2,h10.2⟩⟩
 ·have:=dz h1 C (zN hC)
  simp only[e9,az] at this;exact⟨this.1.1.1,this.1.1.2,this.1.2,this.2⟩
 ·exact beq_iff_eq.mp (dz (dz h4 C (zN hC)) B (Dz hB))
 ·have:=dz h5 C (zN hC)
  simp only[e9,az] at this;exact⟨this.1.1,this.1.2,this.2⟩
 ·have:=dz h6 B (Dz hB)
  simp only[e9,az] at this;exact⟨this.1.1.1,this.1.1.2,this.1.2,this.2⟩
theorem pP.of{K:Frag}(h1:CC K=true)(h2:CP K=true)(h3:yU K=true)(h4:(yv.all λa=>u9 K a)=true)(h5:QK K):pP K:=by
 refine⟨λC x=>OL h1,λC m f hm hn=>?_,λC f hm=>?_,OW h3,λa ha=>dz h4 a (List.contains_iff_mem.mp ha),h5⟩
 ·have:=Jc h2 hm
  rw[aa (by simpa using hn)] at this;exact .of this
 ·have:=Jc h2 hm
  rw[ai ()] at this;exact .of this
end
section
section
variable{X:XP}{n:Nat}
abbrev kO(c:Fx)(l:Lv)(X:XP)(Q:VQ)(e:Expr)(s:Sh):Prop:=wpAny (MM wd) c.A (eval e c.env) (Ok c l Q) (Exc c X) s
theorem St.ctx{c':Fx}(S:St c l P s)(h1:c'.F=c.F)(h2:c'.env=c.env)(h3:c'.aZ=c.aZ)(h4:c'.base=c.base)(h5:c'.os=c.os):St c' l P s:=by obtain⟨e,f,A,b,mg,mb,o,F,os⟩:=c;obtain⟨e',f',A',b',mg',mb',o',F',os'⟩:=c';subst h1;subst h2;subst h3;subst h4;subst h5;obtain⟨m,G,D,S⟩:=S;exact⟨m,G,D,S.ext,S.loc,S.nU,S.oF,S.own,S.sat,S.lv,S.gens,S.os⟩
theorem St.CK(S:St c l P s)(O:bM c):K.In s.heap:=by obtain⟨m,G,D,S⟩:=S;exact O.X.keeps S.sat.stay
theorem CZ(R:bP n c.A):c.A.units<cLine:=by have:=R.un;have e:cLine=9900:=⋯;lia
theorem tL{ns:NS}{x:Str}{i:Nat}(h:ns.findIdx? (λq=>q.1==x)=some i):∃ k,ns[i]?=some (x,k):=by
 obtain⟨hi,h1,_⟩:=List.findIdx?_eq_some_iff_getElem.mp h;refine⟨ns[i].2,?_⟩;rw[f9 hi];have:ns[i].1=x:=by simpa using h1
 rw[<-this]
inductive NT(ns:NS)(x:Str):T->Prop
 | bad:NT ns x .bad
 | con (i:Nat) (v:Va) (hi:ns[i]?=some (x,.globalImplicit)) (hv:gl K x=some v) (hx:(x==("__debug__":Str))=false/\(x==("__classdict__":Str))=false):NT ns x (.con (ab v))
 | loc (i:Nat) (k:NameKind) (hi:ns[i]?=some (x,k)) (hx:(x==("__debug__":Str))=false/\(x==("__classdict__":Str))=false):NT ns x (.loc i)
theorem vE(ns:NS)(x:Str):NT ns x (dQ K ns x):=by
 unfold dQ;by_cases hx:(x==("__debug__":Str)||x==("__classdict__":Str))=true
 ·rw[ai hx];exact .bad
 rw[aa hx];have hx:=Bool.or_eq_false_iff.mp (Bool.eq_false_iff.mpr hx);cases e:((ns.findIdx? (λq=>q.1==x)).bind λi=>(ns[i]?).bind λq=>NR K x i q.2) with
 | none=>exact .bad
 | some t=>
  refine aN e λi hi e=>aN e λq hq e=>?_;obtain⟨k,hk⟩:=tL hi;obtain rfl:=kr (hq.symm.trans hk);by_cases q:k=.globalImplicit
  ·have e:=(ai q).symm.trans e
   exact dK e λv hv e=>e▸.con i v (q▸hk) hv hx
  ·have e:=(aa q).symm.trans e
   by_cases q:k=.globalExplicit
   ·exact bB ((ai q).symm.trans e)
   ·exact kr ((aa q).symm.trans e)▸.loc i k hk hx
theorem J2{A:Around}{E:VS}{Q':VS}{x:Str}{pos:Pos}{i:Nat}{v:Va}(S:St c l P s)(O:bM c)(hi:c.env.scope.names[i]?=some (x,.globalImplicit))(hv:gl K x=some v)(hx:(x==("__debug__":Str))=false)(h:Q' v s):wpAny (MM wd) A (eval (.Name x pos) c.env) Q' E s:=by
 obtain⟨m,G,D,S'⟩:=S;have hg:s.heap.Ns c.env.globals c.mg:=by rw[O.qN];exact O.top.g.keeps S'.sat.stay
 have hlk:=aT O.nd hi;refine aN hv λo hu hv=>?_
 ·cases o with
  | some u=>obtain rfl:=kr hv;exact Name_function_global O.knd hlk (loadGlobal_global hg (mg_of O.X O.top.g hu) h) hx
  | none=>
   have hb:s.heap.Ns c.env.builtins c.mb:=by rw[O.KA];exact O.top.b.keeps S'.sat.stay
   have hv:(if (x==("__name__":Str))=true then none else bootBuiltins x)=some v:=hv;by_cases hne:(x==("__name__":Str))=true
   ·rw[ai hne] at hv;exact bB hv
   ·rw[aa hne] at hv
    exact Name_function_global O.knd hlk (loadGlobal_builtin hg (mg_none_of O.X O.top.g hu) hb ((O.top.builtins x (by simpa using hne)).trans hv) h) hx
theorem Gr{A:Around}{E:VS}{x:Str}{pos:Pos}(S:St c l P s)(O:bM c)(h:bE n (dQ K c.env.scope.names x) l P X Q):wpAny (MM wd) A (eval (.Name x pos) c.env) (Ok c l Q) E s:=by
 have N:=vE c.env.scope.names x;generalize dQ K c.env.scope.names x=t at N h;cases N with
 | bad=>exact ck h
 | con i v hi hv hx=>exact J2 S O hi hv hx.1 (S.ok h)
 | loc i k hk hx=>
  replace h:(match l[i]? with
   | some (some v)=>Q v P
   | _=>False):=h
  cases hv:l[i]? with
  | none=>rw[hv] at h;exact ck h
  | some w=>
   rw[hv] at h;cases w with
   | none=>exact ck h
   | some v=>exact S.load O hk hv hx.1 hx.2 λv' e=>S.ok (by rw[e];exact h)
theorem mV{x:Str}{pos:Pos}(S:St c l P s)(O:bM c)(h:bE n (dQ K c.env.scope.names x) l P X Q):kO c l X Q (.Name x pos) s:=Gr S O h
theorem bM.under{c:Fx}{C:Ad}{args:List Va}(O:bM c):bM { c with A:=c.A.under (.builtin "type.__call__" ⟨.ref C::args,[]⟩) }:=⟨O.hA,O.hh,O.knd,O.qN,O.KA,O.nd,O.nF,O.cF,O.cI,O.fk,O.X,O.top,O.big,O.st,O.frs,O.cA,O.fl,O.OB,O.Oi,O.HJ⟩
theorem bP.under{k:Nat}{A:Around}{C:Ad}{args:List Va}(R:bP (k+1) A):bP k (A.under (.builtin "type.__call__" ⟨.ref C::args,[]⟩)):=by
 obtain⟨h1,h2⟩:=R;refine⟨?_,?_⟩
 ·show A.depth+1+k<=990;lia
 ·show A.units+1+10*k<=9890;lia
theorem Exc.ctx{c':Fx}{e:Va}(h:Exc c X e s)(h1:c'.F=c.F)(h2:c'.env=c.env)(h3:c'.aZ=c.aZ)(h4:c'.base=c.base)(h5:c'.os=c.os)(h6:c'.outer=c.outer):Exc c' X e s:=by obtain⟨e0,f,A,b,mg,mb,o,F,os⟩:=c;obtain⟨e',f',A',b',mg',mb',o',F',os'⟩:=c';subst h1;subst h2;subst h3;subst h4;subst h5;subst h6;obtain⟨e,P,m,G,D,B,fl,x,mk,y,z⟩:=h;exact⟨e,P,m,G,D,B,fl,x,mk,⟨⟨y.st.ext,y.st.loc,y.st.nU,y.st.oF,y.st.own,y.st.sat,y.st.lv,y.st.gens,y.st.os⟩,y.BY,y.base,y.OX,y.HW⟩,z⟩
theorem Mi{C f:Ad}{k:Nat}{args:List Va}(M:xB K C f)(S:St c l P s)(O:bM c)(R:bP (k+1) c.A)
  (h:∀ a,P a=none->Calls k f (.ref a::args.map ab) (upd P a (.inst C [])) X λv P=>v=.none/\Q (.ref a) P):
  wpAny (MM wd) c.A (call (.ref C) args) (Ok c l Q) (Exc c X) s:=by
 have XK:=S.CK O;obtain⟨hh,g,d,t,os⟩:=s;have kp:gU hh ((hh.push emptyDict).push (instObj C hh.objs.size)):=λb o q=>cN _ _ (cN _ _ q)
 have ex:((hh.push emptyDict).push (instObj C hh.objs.size)).get? (hh.objs.size+1)=some (instObj C hh.objs.size):=by
  have:=fj (hh.push emptyDict) (o:=instObj C hh.objs.size) rfl
  rwa [jc] at this
 have ed:((hh.push emptyDict).push (instObj C hh.objs.size)).get? hh.objs.size=some emptyDict:=cN _ _ (fj _ rfl);have hsz:((hh.push emptyDict).push (instObj C hh.objs.size)).objs.size=hh.objs.size+2:=by rw[jc,jc]
 obtain⟨hn,S'⟩:=S.Ca (s':=⟨(hh.push emptyDict).push (instObj C hh.objs.size),g,d,t,os⟩) (a:=hh.objs.size+1) (d:=hh.objs.size) (o:=.inst C []) kp
  ⟨by show hh.objs.size<=_;rw[hsz];lia,rfl,rfl⟩ (ki _) (f7 _) (Nat.succ_ne_self _) λF=>⟨ex,[],0,ed,.nil⟩
 refine wpAny_call (make_core (makes_of XK M.V0) (looks_findIn XK M.fi) (λself=>bind_fn XK self (beq_iff_eq.mp M.fn)) (.inl rfl) ?_);refine codeAny_mono (h _ hn { c with A:=c.A.under (.builtin "type.__call__" ⟨.ref C::args,[]⟩) } l _ (.ref (hh.objs.size+1)::args) O.under R.under (S'.ctx rfl rfl rfl rfl rfl) rfl) λr s' hr=>?_;rcases r with e|f
 ·exact Exc.ctx (c:={ c with A:=c.A.under (.builtin "type.__call__" ⟨.ref C::args,[]⟩) }) hr rfl rfl rfl rfl rfl rfl
 ·cases f<;>first|(exact ck hr)|skip
  obtain⟨P',qM,hv,hq⟩:=hr;exact⟨Dv hv,P',qM.ctx rfl rfl rfl rfl rfl,hq⟩
theorem qy{f:Ad}{args:List Va}(S:St c l P s)(O:bM c)(R:bP n c.A)(h:Calls n f (args.map ab) P X Q):wpAny (MM wd) c.A (call (.ref f) args) (Ok c l Q) (Exc c X) s:=by
 refine wpAny_call (codeAny_mono (h c l s args O R S rfl) λr s' hr=>?_);rcases r with e|f
 ·exact hr
 ·cases f<;>first|(exact ck hr)|exact hr
end
end
section
section
variable{X:XP}{n:Nat}
inductive UP(c:Fx)(l:Lv)(Q:List Va->PH->Prop)(vs:List Va)(s':Sh):Prop
 | mk (P':PH) (S:St c l P' s') (h:Q (vs.map ab) P')
inductive Tr(c:Fx)(l:Lv)(T F:PH->Prop)(b:Bool)(s':Sh):Prop
 | mk (P':PH) (S:St c l P' s') (h:if b then T P' else F P')
def dN(f:Nat):Prop:=∀(e:Expr) (c:Fx) (l:Lv) (P:PH) (s:Sh) (X:XP) (Q:VQ) (n:Nat),bM c->bP n c.A->St c l P s->bE n (aC K f c.env.scope.names e) l P X Q->kO c l X Q e s
def sG(f:Nat):Prop:=∀(e:Expr) (c:Fx) (l:Lv) (P:PH) (s:Sh) (X:XP) (T F:PH->Prop) (n:Nat),bM c->bP n c.A->St c l P s->bE n (aC K f c.env.scope.names e) l P X (λv P=>aV v (T P) (F P))->wpAny (MM wd) c.A (isTrue e c.env (eval e c.env)) (Tr c l T F) (Exc c X) s
set_option tactic.hygienic true in
theorem yw{v:Va}{T F:Prop}(h:aV (ab v) T F):(v=.bool true/\T)\/(v=.bool false/\F):=by
 cases v<;>first|exact ck h|skip
 rename_i b;cases b
 ·exact .inr ⟨rfl,h⟩
 ·exact .inl ⟨rfl,h⟩
theorem vR{env:Env}:∀{es:List Expr},es.any isStar=false->starEach es env=es.map λe=>(false,eval e env):=by
 intro rr;induction rr with
 | nil=>exactλq=>rfl
 | cons e r ih=>
  intro h;rw[jo,Bool.or_eq_false_iff] at h;have e1:starEach (e::r) env=(false,eval e env)::starEach r env:=by have h:=h.1;cases e<;>first|rfl|exact lH h
  exact e1.trans (aj _ (ih h.2))
theorem iY{env:Env}{pos:Pos}{es:List Expr}(h:es.any isStar=false):backTo pos (starEach es env)=es.map λe=>(false,eval e env):=by rw[vR h];unfold backTo;rw[ir];rfl
theorem EM{env:Env}{es:List Expr}:(es.map λe=>(false,eval e env)).any (·.1)=false:=by
 rw[List.any_map];induction es with
 | nil=>rfl
 | cons e r ih=>rw[jo,ih];rfl
theorem fN{f:Nat}(H:dN f)(O:bM c)(R:bP n c.A):∀{es:List Expr} {P:PH} {s:Sh} {Q:List Va->PH->Prop},es.any isStar=false->St c l P s->GU n (mF (aC K f c.env.scope.names) es) l P X Q->wpAny (MM wd) c.A (spliced (es.map λe=>(false,eval e c.env))) (UP c l Q) (Exc c X) s:=by
 intro rr;induction rr with
 | nil=>exact @λP s Q q S h=>g7 ⟨P,S,h⟩
 | cons e r ih=>intro P s Q hs S h;rw[jo,Bool.or_eq_false_iff] at hs;refine g8 (ak (H e c l P s X _ n O R S h) (λv aF h₁=>?_) λq q x=>x);obtain⟨aP,aH,h₁⟩:=h₁;exact ak (ih hs.2 aH h₁) (λvs cE ⟨P,S,h⟩=>⟨P,S,h⟩) λq q x=>x
theorem dS{g:Expr->T}{es:List Expr}{Q:List Va->PH->Prop}(h:GU n (fY g es) l P X Q):es.any isStar=false/\GU n (mF g es) l P X Q:=by
 unfold fY at h;split at h
 ·exact ck h
 ·rename_i q;exact⟨by simpa using q,h⟩
theorem uv{o:Expr}{x:Str}{env:Env}{whole:Sem Va}(h:fJ o=false):attributeBase o x env whole=whole:=by
 cases o<;>first|rfl|skip
 cases func<;>first|rfl|skip
 cases args<;>first|rfl|skip
 cases keywords<;>first|rfl|exact lH h
theorem nR{M:Model}{A:Around}{x:Sem Bool}{T F:PH->Prop}{E:VS}{Q':Bool->Sh->Prop}(h:wpAny M A x (Tr c l T F) E s)(k:∀ r P' s',St c l P' s'->(if r=true then T P' else F P')->Q' r s'):wpAny M A x Q' E s:=ak h (λv s' ⟨P',S',q⟩=>k v P' s' S' q) λj j x=>x
theorem gJ{M:Model}{A:Around}{x:Sem (List Va)}{Q:List Va->PH->Prop}{E:VS}{Q':List Va->Sh->Prop}(h:wpAny M A x (UP c l Q) E s)(k:∀ vs P' s',St c l P' s'->Q (vs.map ab) P'->Q' vs s'):wpAny M A x Q' E s:=ak h (λv s' ⟨P',S',q⟩=>k v P' s' S' q) λj j x=>x
theorem cB{f:Va}{first:List Va}{pos:Pos}{es:List Expr}{G:Heap->Prop}{Q:VS}{E:VS}{M:Model}{A:Around}{env:Env}(hs:es.any isStar=false)
  (hk:∀ h,G h->∃ k,(k=Keeper.frame\/k=Keeper.machine\/k=Keeper.boundFrame)/\Looks M h (keeperOf f) k)
  (h:wpAny M A (spliced (es.map λe=>(false,eval e env))) (λvs aF=>G aF.heap/\wpAny M A (call f (first++vs)) Q E aF) E s):
  wpAny M A (callWith pos f first (backTo pos (starEach es env)) []) Q E s:=by
 rw[iY hs];refine callWith_of (P:=G) (by rw[EM];rfl) hk ?_;cases es with
 | nil=>unfold evalArgs;show wpAny M A (spliced []>>=_) _ _ s;refine af (ak h (λvs s' h'=>?_) λq q x=>x);refine ay ?_;exact af (aq (af (aq (aq h'))))
 | cons e r=>exact evalArgs_plain h
theorem qi{id:String}{M:Model}(h:Heap)(_:True):∃ k,(k=Keeper.frame\/k=Keeper.machine\/k=Keeper.boundFrame)/\Looks M h (keeperOf (.builtin id)) k:=⟨.machine,.inr (.inl rfl),Looks.of_pure rfl⟩
theorem tO{id:String}{M:Model}(h:Heap)(_:True):∃ k,(k=Keeper.frame\/k=Keeper.machine\/k=Keeper.boundFrame)/\Looks M h (keeperOf (.type id)) k:=⟨.machine,.inr (.inl rfl),Looks.of_pure rfl⟩
theorem AX{a:Ad}{M:Model}(hf:u9 K a=true)(h:Heap)(X:K.In h):∃ k,(k=Keeper.frame\/k=Keeper.machine\/k=Keeper.boundFrame)/\Looks M h (keeperOf (.ref a)) k:=by obtain⟨f,hf⟩:=cz hf;obtain⟨⟨x,y,d,z⟩,h1,h2⟩:=DR K hf;refine keeps_K ?_ h X;subst h2;unfold keepIn;dsimp only;rw[h1]
set_option tactic.hygienic true in
theorem uV{a C f:Ad}{fs:List (Nat × Va)}{name:Str}{pl:Sem Bool}{A:Around}{E:VS}{Q':Va × List Va->Sh->Prop}(S:St c l P s)(O:bM c)(hP:P a=some (.inst C fs))(M:Dr K C name f)
  (hf:match lX.findIdx? (·==name) with|some x=>eH x fs=none|none=>True) (h:Q' (.ref f,[.ref a]) s):wpAny (MM wd) A (getMethod (.ref a) name pl) Q' E s:=by
 obtain⟨m,G,D,S⟩:=S;obtain⟨es,k,hr,hd,I⟩:=(S.sat.rel a _ hP).2.yV;refine method_inst (S.fr O) O.X I M.pg M.fi M.fn ?_ h;split at hf
 ·rename_i x hx
  obtain⟨hi,h1,_⟩:=List.findIdx?_eq_some_iff_getElem.mp hx;have l58:lX.length=58:=⋯;have hx58:x<58:=by lia
  have e:nm x=name:=by
   unfold nm;rw[gw,f9 hi]
   simpa using h1
  obtain⟨r,h2,h3⟩:=hr.get hx58;rw[hf] at h3;rw[<-e,h2];cases r with
  | none=>rfl
  | some v=>cases h3
 ·rename_i hx
  have hn:=List.findIdx?_eq_none_iff.mp hx;unfold getL;rw[hr.noRef]
  have:es.find? (·.key.isStr name)=none:=by
   refine List.find?_eq_none.mpr λd hd=>?_
   have key:∀{es:List DictEntry} {fs:List (Nat × Va)},gQ es fs->∀ d∈es,∃ x t,x<58/\d.key=.str (nm x) t:=by
    intro es fs h;induction h with
    | nil=>intro d hd;cases hd
    | cons tk lx hk _ _ ih=>
     intro d hd;rcases ku hd with rfl|hd
     ·exact⟨_,tk,lx,hk⟩
     ·exact ih d hd
   obtain⟨x,t,lx,hk⟩:=key hr d hd;rw[hk,kH];have l58:lX.length=58:=⋯;have hmem:nm x∈lX:=by unfold nm;rw[gw,f9 (by lia)];exact j9 _
   have:=hn _ hmem
   simpa using this
  rw[this];rfl
theorem call_meth{o:Expr}{name:Str}{apos pos:Pos}{es:List Expr}{env:Env}{A:Around}{E:VS}{Q:VS}(hb:fJ o=false)(hs:es.any isStar=false)(hlen:es.length<20)(hline:(apos.endLine==pos.line)=true)
  (h:wpAny (MM wd) A (eval o env) (λov aF=>∀ pl,wpAny (MM wd) A (getMethod ov name pl) (λfx cE=>wpAny (MM wd) A (callWith pos fx.1 fx.2 (backTo pos (starEach es env)) []) Q E cE) E aF) E s):
  wpAny (MM wd) A (eval (.Call (.Attribute o name apos) es [] pos) env) Q E s:=by
 rw[arm_eval_Call,uv hb];refine af (ak h (λov aF h₁=>?_) λq q e=>e);refine af (b9 ?_)
 have hform:methodCallForm (es.length+([]:List Keyword).length) (backTo pos (starEach es env)) (backToKw pos (keywordEach [] env))=true:=by
  unfold methodCallForm;rw[iY hs];have e1:(es.map λe=>((false,eval e env):Bool × Sem Va)).all (λx=>!x.1)=true:=by rw[List.all_map];simp [Function.comp]
  have e2:(backToKw pos (keywordEach [] env))=[]:=rfl;rw[e1,e2];simp only[j3,Nat.add_zero,List.all_nil,List.isEmpty_nil,if_true,Bool.and_self,Bool.true_and];exact au (by lia)
 have hpos:methodCallPos true o env apos pos=pure pos:=by unfold methodCallPos;simp [hline]
 unfold methodCall;rw[hform];refine af (ay ?_);unfold calleeOf;simp only[if_true];refine ak (h₁ _) (λfx cE bA=>?_) λq q e=>e;exact af (wpAny_of_eq hpos bA)
theorem wV{C f:Ad}{pl:Sem Bool}{A:Around}{E:VS}{Q':Va × List Va->Sh->Prop}(S:St c l P s)(O:bM c)(M:EE K C f)
  (h:∀ s',St c l P s'->Q' (.ref f,[]) s'):wpAny (MM wd) A (getMethod (.ref C) "__init__" pl) Q' E s:=by
 obtain⟨m,G,D,S'⟩:=S;have S:St c l P s:=⟨m,G,D,S'⟩
 exact method_of_cls (S'.fr O) O.X M.ga (cls_val (S'.fr O) O.X M.ty M.rd M.fc rfl (h _ (S.toks _)))
end
end
section
variable{X:XP}{n:Nat}
theorem Eu{op:CmpOp}{p:Prim}{a b:Va}(hp:DL op=some p)(S:St c l P s)(O:bM c)(R:bP n c.A)(h:bD p [ab a,ab b] P Q):wpAny (MM wd) c.A (compareOp op a b) (Ok c l Q) E s:=by
 cases op<;>cases hp
 ·exact Sf S h
 ·exact Sl S h (CZ R)
 ·exact Sk S h
 ·exact Sg S h
 ·exact Sj S h
 ·exact Jy S h
 ·exact Si S O h
 ·exact JA S O h
theorem MF{op:Operator}{p:Prim}{a b:Va}(hp:binOp op=some p)(S:St c l P s)(h:bD p [ab a,ab b] P Q):wpAny (MM wd) c.A (binaryOp op a b) (Ok c l Q) E s:=by
 cases op<;>cases hp
 ·exact Jv S h
 ·exact PT S h
 ·exact PS S h
 ·exact PV S h
 ·exact Mc S h
theorem vH{op:CmpOp}{e:Expr}(h:isSet e=false):behindInMarks op e=false:=by cases e<;>first|rfl|cases h
theorem t7{f:Nat}(H:dN f)(O:bM c)(R:bP n c.A)(S:St c l P s){a b:Expr}{p:Prim}{Q':VS}{op:Va->Va->Sem Va}
  (h:bE n (.prim p (.cons (aC K f c.env.scope.names a) (.cons (aC K f c.env.scope.names b) .nil))) l P X Q)
  (k:∀ va vb P' s',St c l P' s'->bD p [ab va,ab vb] P' Q->wpAny (MM wd) c.A (op va vb) Q' (Exc c X) s'):
  wpAny (MM wd) c.A (eval a c.env) (λva aF=>wpAny (MM wd) c.A (eval b c.env) (λvb cE=>wpAny (MM wd) c.A (op va vb) Q' (Exc c X) cE) (Exc c X) aF) (Exc c X) s:=by refine ak (H a c l P s X _ n O R S h) (λva aF h₁=>?_) λq q x=>x;obtain⟨aP,aH,h₁⟩:=h₁;refine ak (H b c l aP aF X _ n O R aH h₁) (λvb cE bA=>?_) λq q x=>x;obtain⟨gV,bU,bA⟩:=bA;exact k va vb gV cE bU bA
theorem Kw{g:Expr->T}{a:T}{ops:List CmpOp}{bs:List Expr}(h:bE n (yJ g a ops bs) l P X Q):∃ op b p,ops=[op]/\bs=[b]/\DL op=some p/\isSet b=false/\bE n (.prim p (.cons a (.cons (g b) .nil))) l P X Q:=by
 match ops,bs,h with
 | [],_,h=>exact ck h
 | _::_::_,_,h=>exact ck h
 | [_],[],h=>exact ck h
 | [_],_::_::_,h=>exact ck h
 | [op],[b],h=>
  unfold yJ at h;dsimp only at h;cases hp:DL op with
  | none=>rw[hp] at h;exact ck h
  | some p=>
   rw[hp] at h;dsimp only at h;cases hb:isSet b with
   | true=>rw[hb] at h;exact ck h
   | false=>rw[hb] at h;exact⟨op,b,p,rfl,rfl,hp,hb,h⟩
set_option tactic.hygienic true in
theorem Ky{op:BoolOp}{ts:List T}(h:bE n (HN op ts) l P X Q):(∃ a b,ts=[a,b])\/∃ a b d,ts=[a,b,d]:=by
 match ts with
 | [a,b]=>exact .inl ⟨a,b,rfl⟩
 | [a,b,d]=>exact .inr ⟨a,b,d,rfl⟩
 | []=>cases op<;>exact ck h
 | [_]=>cases op<;>exact ck h
 | _::_::_::_::_=>cases op<;>exact ck h
theorem map_two{g:Expr->T}{es:List Expr}{a b:T}(h:es.map g=[a,b]):∃ x y,es=[x,y]:=by
 match es,h with
 | [x,y],_=>exact⟨x,y,rfl⟩
 | [],h=>simp at h
 | [_],h=>simp at h
 | _::_::_::_,h=>simp at h
theorem x8{g:Expr->T}{es:List Expr}{a b d:T}(h:es.map g=[a,b,d]):∃ x y z,es=[x,y,z]:=by
 match es,h with
 | [x,y,z],_=>exact⟨x,y,z,rfl⟩
 | [],h=>simp at h
 | [_],h=>simp at h
 | [_,_],h=>simp at h
 | _::_::_::_::_,h=>simp at h
theorem mu{a:Expr}{r:List Expr}{pos:Pos}{W:Sem Va}{T1 T F:PH->Prop}(h:wpAny (MM wd) c.A (isTrue a c.env (eval a c.env)) (Tr c l T1 F) (Exc c X) s)
  (k:∀ aP aF,St c l aP aF->T1 aP->wpAny (MM wd) c.A (isTrue (.BoolOp .And r pos) c.env W) (Tr c l T F) (Exc c X) aF):wpAny (MM wd) c.A (isTrue (.BoolOp .And (a::r) pos) c.env W) (Tr c l T F) (Exc c X) s:=isTrue_and (nR h λr aP aF aH h₁=>by
 cases r
 ·exact⟨aP,aH,h₁⟩
 ·exact k aP aF aH h₁)
theorem qz{a:Expr}{r:List Expr}{pos:Pos}{W:Sem Va}{F1 T F:PH->Prop}(h:wpAny (MM wd) c.A (isTrue a c.env (eval a c.env)) (Tr c l T F1) (Exc c X) s)
  (k:∀ aP aF,St c l aP aF->F1 aP->wpAny (MM wd) c.A (isTrue (.BoolOp .Or r pos) c.env W) (Tr c l T F) (Exc c X) aF):wpAny (MM wd) c.A (isTrue (.BoolOp .Or (a::r) pos) c.env W) (Tr c l T F) (Exc c X) s:=isTrue_or (nR h λr aP aF aH h₁=>by
 cases r
 ·exact k aP aF aH h₁
 ·exact⟨aP,aH,h₁⟩)
set_option tactic.hygienic true in
theorem Gm{f:Nat}(H:dN (f+1))(H0:dN f)(HT:sG f):sG (f+1):=by
 intro e c l P s X T F n O R S h
 have plain:(isTrue e c.env (eval e c.env)=(do let v<-eval e c.env;standAt e.pos;holding [v] (truthy v)))->wpAny (MM wd) c.A (isTrue e c.env (eval e c.env)) (Tr c l T F) (Exc c X) s:=λhe=>by
  refine isTrue_plain (bG (H e c l P s X _ n O R S h) λv aP aF aH h₁=>?_) he;rcases yw h₁ with⟨rfl,q⟩|⟨rfl,q⟩
  ·exact bw ⟨aP,aH,q⟩
  ·exact bw ⟨aP,aH,q⟩
 cases e<;>try exact plain rfl
 ·
  rename_i op vs pos
  have key:∀(a b:Expr),vs=[a,b]\/(∃ d,vs=[a,b,d])->wpAny (MM wd) c.A (isTrue (.BoolOp op vs pos) c.env (eval (.BoolOp op vs pos) c.env)) (Tr c l T F) (Exc c X) s:=λa b q=>by
   rcases q with rfl|⟨d,rfl⟩
   ·cases op
    ·exact mu (HT a c l P s X (λP=>bE n (aC K f c.env.scope.names b) l P X λv P=>aV v (T P) (F P)) F n O R S h) λaP aF aH h₁=>mu (HT b c l aP aF X T F n O R aH h₁) λgV cE bU bA=>isTrue_and_nil ⟨gV,bU,bA⟩
    ·exact qz (HT a c l P s X T (λP=>bE n (aC K f c.env.scope.names b) l P X λv P=>aV v (T P) (F P)) n O R S h) λaP aF aH h₁=>qz (HT b c l aP aF X T F n O R aH h₁) λgV cE bU bA=>isTrue_or_nil ⟨gV,bU,bA⟩
   ·cases op
    ·exact mu (HT a c l P s X (λP=>bE n (.and (aC K f c.env.scope.names b) (aC K f c.env.scope.names d)) l P X λv P=>aV v (T P) (F P)) F n O R S h) λaP aF aH h₁=>mu (HT b c l aP aF X (λP=>bE n (aC K f c.env.scope.names d) l P X λv P=>aV v (T P) (F P)) F n O R aH h₁) λgV cE bU bA=>mu (HT d c l gV cE X T F n O R bU bA) λqR jH dX bY=>isTrue_and_nil ⟨qR,dX,bY⟩
    ·exact qz (HT a c l P s X T (λP=>bE n (.or (aC K f c.env.scope.names b) (aC K f c.env.scope.names d)) l P X λv P=>aV v (T P) (F P)) n O R S h) λaP aF aH h₁=>qz (HT b c l aP aF X T (λP=>bE n (aC K f c.env.scope.names d) l P X λv P=>aV v (T P) (F P)) n O R aH h₁) λgV cE bU bA=>qz (HT d c l gV cE X T F n O R bU bA) λqR jH dX bY=>isTrue_or_nil ⟨qR,dX,bY⟩
  rcases Ky h with⟨a,b,e⟩|⟨a,b,d,e⟩
  ·obtain⟨x,y,e⟩:=map_two e
   exact key x y (.inl e)
  ·obtain⟨x,y,z,e⟩:=x8 e
   exact key x y (.inr ⟨z,e⟩)
 ·
  rename_i op a pos;cases op<;>first|exact ck h|skip
  refine isTrue_not (nR (HT a c l P s X F T n O R S h) λr aP aF aH h₁=>?_);cases r<;>exact⟨aP,aH,h₁⟩
 ·
  rename_i t a b pos;refine isTrue_IfExp (nR (HT t c l P s X (λP=>bE n (aC K f c.env.scope.names a) l P X λv P=>aV v (T P) (F P)) (λP=>bE n (aC K f c.env.scope.names b) l P X λv P=>aV v (T P) (F P)) n O R S h) λr aP aF aH h₁=>?_);cases r
  ·exact HT b c l aP aF X T F n O R aH h₁
  ·exact HT a c l aP aF X T F n O R aH h₁
 ·
  rename_i a ops bs pos;obtain⟨op,b,p,rfl,rfl,hp,hb,h⟩:=Kw h;refine wpAny_isTrue_Compare1 (t7 H0 O R S h λva vb P' s' S' h'=>bG (Eu hp S' O R h') λv qR jH dX bY=>?_) (vH hb);rcases yw bY with⟨rfl,q⟩|⟨rfl,q⟩
  ·exact bw ⟨qR,dX,q⟩
  ·exact bw ⟨qR,dX,q⟩
end
section
variable{X:XP}{n:Nat}
theorem tC{o:Expr}{x:Str}{pos:Pos}{env:Env}(h:fJ o=false):eval (.Attribute o x pos) env=(do
   let ov<-eval o env
   standAt pos.atName
   let r<-holding [ov] (getAttr ov x true)
   letTemporaryGo o ov r
   pure r):=by
 have:eval (.Attribute o x pos) env=(do
   let ov<-attributeBase o x env (eval o env)
   standAt pos.atName
   let r<-holding [ov] (getAttr ov x true)
   letTemporaryGo o ov r
   pure r):=rfl
 rw[this,uv h]
theorem qu{x:Str}{k:Nat}(h:lX.findIdx? (·==x)=some k):x=nm k:=by
 obtain⟨hi,h1,_⟩:=List.findIdx?_eq_some_iff_getElem.mp h;unfold nm;rw[gw,f9 hi];have:lX[k]=x:=by simpa using h1
 exact this.symm
theorem CB{x:Nat}(h:cT x=true):x<58:=by unfold cT at h;simp only[j4,az] at h;lia
set_option tactic.hygienic true in
theorem mU{A:Around}{a:Va}{k:Nat}{x:Str}(I:pP K)(S:St c l P s)(O:bM c)(hx:x=nm k)(h:match ab a with|.ref a=>iD a k P Q|_=>False):wpAny (MM wd) A (getAttr a x true) (Ok c l Q) E s:=by
 cases a<;>first|exact ck h|skip
 rename_i a;replace h:iD a k P Q:=h;unfold iD at h;cases hP:P a with
 | none=>rw[hP] at h;exact ck h
 | some o=>
 rw[hP] at h
 have sub:∀{fs:List (Nat × Va)},(match eH k fs with|some v=>handedIn v=true/\Q v P|none=>False)->∃ v,eH k fs=some v/\handedIn v=true/\Q v P:=λ{fs} h=>by
  cases e:eH k fs with
  | none=>rw[e] at h;exact ck h
  | some v=>rw[e] at h;exact⟨v,rfl,h⟩
 cases o<;>first|exact ck h|skip
 ·obtain⟨v,hv,h3,h4⟩:=sub h.2
  exact Mb S O hP (I.fld _ _ h.1) hx hv h3 h4
 ·obtain⟨v,hv,h3,h4⟩:=sub h.2
  obtain⟨⟨rfl,h1⟩,h2⟩:=h;exact Bj I.ex.exc S O hP h1 (CB h1) hx hv h3 h4
theorem GD{slice:Expr}(h:isSlice slice=false):∀ o i,subscripted slice false o i=operate [o,i] (getItem o i):=by intro o i;cases slice<;>first|rfl|cases h
theorem tw{v:Va}{x:String}(h:ab v=.type x):v=.type x:=Value.type.elim (motive:=λv=>ab v=.type x->v=.type x) v (B8 h) (λ_ h=>h) h
theorem dJ{d:Ad}{name:Str}{id:String}{pl:Sem Bool}{A:Around}{Q':Va × List Va->Sh->Prop}{ob:Obj}{kvs:List (Str × Va)}(slot:Slot "dict" name id)(hty:typeOf (.builtin id)=pure (.type "method_descriptor"))(g:s.heap.get? d=some ob)(hd:ob.IsDictOf (strKind pw wd) kvs)
  (h:Q' (.builtin id,[.ref d]) s):wpAny (MM wd) A (getMethod (.ref d) name pl) Q' E s:=by have hD:=Heap.dictOf_iff.mpr ⟨ob,g,hd⟩;exact getMethod_builtin hD.typeIs PySem.F.plainAttrs_dict slot hty hD.mapOf.noDict h
theorem iL{d:Ad}{name:Str}{id:String}{pl:Sem Bool}{A:Around}{Q':Va × List Va->Sh->Prop}{vs:List Va}{n:Nat}(slot:Slot "list" name id)(hty:typeOf (.builtin id)=pure (.type "method_descriptor"))(g:s.heap.get? d=some (W.listOf vs.toArray n))
  (h:Q' (.builtin id,[.ref d]) s):wpAny (MM wd) A (getMethod (.ref d) name pl) Q' E s:=getMethod_builtin (bK g).typeIs PySem.F.plainAttrs_list slot hty (λb e=>by obtain rfl:=Value.ref.inj e;exact⟨_,g,rfl⟩) h
theorem rQ{x:Str}{t:Tok}{pl:Sem Bool}{A:Around}{Q':Va × List Va->Sh->Prop}(h:Q' (.builtin "str.upper",[.str x t]) s):wpAny (MM wd) A (getMethod (.str x t) "upper" pl) Q' E s:=PySem.GM.upper h
theorem rP{x:Str}{t:Tok}{pl:Sem Bool}{A:Around}{Q':Va × List Va->Sh->Prop}(h:Q' (.builtin "str.split",[.str x t]) s):wpAny (MM wd) A (getMethod (.str x t) "split" pl) Q' E s:=PySem.GM.split h
theorem Jt{vs:List Va}{F:Va->Prop}(h:CS (vs.map ab) F):∃ a,vs=[a]/\F (ab a):=by obtain⟨a,_,rfl,h⟩:=vJ h;obtain⟨rfl,h⟩:=Ei h;exact⟨a,rfl,h⟩
theorem Ju{vs:List Va}{F:Va->Va->Prop}{G:Prop}(h:tX (vs.map ab) F)(k:∀ a b,vs=[a,b]->F (ab a) (ab b)->G):G:=by obtain⟨a,_,rfl,h⟩:=vJ h;obtain⟨b,rfl,h⟩:=Jt h;exact k a b rfl h
theorem PK{vs:List Va}{a:Va}{F:Va->Prop}{G:Prop}(h:CS (a::vs.map ab) F)(k:vs=[]->F a->G):G:=have h:=Ei h;k h.1 h.2
theorem vI{vs:List Va}{a:Va}{F:Va->Va->Prop}{G:Prop}(h:tX (a::vs.map ab) F)(k:∀ v,vs=[v]->F a (ab v)->G):G:=(Jt (F:=F a) h).elim λv h=>k v h.1 h.2
theorem PL{vs:List Va}{a:Va}{F:Va->Va->Va->Prop}{G:Prop}(h:Vh (a::vs.map ab) F)(k:∀ v u,vs=[v,u]->F a (ab v) (ab u)->G):G:=Ju (F:=F a) h k
theorem Qd{f:Nat}(H:dN f)(O:bM c)(R:bP n c.A)(S:St c l P s){o:Expr}{x:Str}{apos pos:Pos}{es:List Expr}{p:Prim}(hb:fJ o=false)(hs:es.any isStar=false)(hlen:es.length<20)(hline:(apos.endLine==pos.line)=true)(hp:DC x es.length=some p)
  (h:bE n (.bm p (aC K f c.env.scope.names o) (fY (aC K f c.env.scope.names) es)) l P X Q):kO c l X Q (.Call (.Attribute o x apos) es [] pos) s:=by
 refine call_meth hb hs hlen hline (bG (H o c l P s X _ n O R S h) λov aP aF aH h₁=>?_);obtain⟨hk,h₁⟩:=h₁;intro pl;have go:∀{id:String},(∀ vs P' s',St c l P' s'->bD p (ab ov::vs.map ab) P' Q->wpAny (MM wd) c.A (call (.builtin id) (ov::vs)) (Ok c l Q) (Exc c X) s')->wpAny (MM wd) c.A (callWith pos (.builtin id) [ov] (backTo pos (starEach es c.env)) []) (Ok c l Q) (Exc c X) aF:=λ{id} k=>cB (G:=λj=>True) hs qi (ak (fN H O R hs aH (dS h₁).2) (λvs cE ⟨gV,bU,bA⟩=>⟨trivial,k vs gV cE bU bA⟩) λj j x=>x);have hb:=Q3 hp;clear hp h h₁ hlen hline hs;generalize es.length=k at hb;cases hb with
 | ry=>obtain⟨d,rfl,hk⟩:=cD hk;obtain⟨_,_,q,_⟩:=iP hk;obtain⟨_,ob,kvs',g,hd,_⟩:=iC aH O q;exact dJ j7 PySem.F.type_dict_get g hd (go λvs P' s' S' h'=>vI h' λv e h'=>e▸Me S' O h')
 | uU=>obtain⟨d,rfl,hk⟩:=cD hk;obtain⟨_,_,q,_⟩:=iP (hk (zm aH O));obtain⟨ob,kvs',g,hd,_⟩:=qB aH O q;exact dJ j7 PySem.F.type_dict_get g hd (go λvs P' s' S' h'=>PL h' λv u e h'=>e▸Mf S' O h')
 | pop=>obtain⟨d,rfl,hk⟩:=cD hk;obtain⟨_,_,q,_⟩:=iP hk;obtain⟨_,ob,kvs',g,hd,_⟩:=iC aH O q;exact dJ PySem.F.slot_dict_pop PySem.F.type_dict_pop g hd (go λvs P' s' S' h'=>vI h' λv e h'=>e▸PU S' O h')
 | append=>obtain⟨d,rfl,hk⟩:=cD hk;obtain⟨_,_,q,_⟩:=fD hk;obtain⟨vs',n',g,_⟩:=eV aH q;exact iL PySem.F.slot_list_append PySem.F.type_list_append g (go λvs P' s' S' h'=>vI h' λv e h'=>e▸FN S' h')
 | extend=>obtain⟨d,rfl,hk⟩:=cD hk;obtain⟨_,_,q,_⟩:=fD hk;obtain⟨vs',n',g,_⟩:=eV aH q;exact iL PySem.F.slot_list_extend PySem.F.type_list_extend g (go λvs P' s' S' h'=>vI h' λv e h'=>e▸FQ S' h')
 | upper=>obtain⟨x,t,rfl,_⟩:=iQ hk;exact rQ (go λvs P' s' S' h'=>PK h' λe h'=>e▸JE S' h')
 | split=>obtain⟨x,t,rfl,_⟩:=iQ hk;exact rP (go λvs P' s' S' h'=>vI h' λv e h'=>e▸JB S' h')
end
section
variable{X:XP}{n:Nat}
theorem QV{g:Expr->T}:∀{es:List Expr},(es.map g).foldr TL.cons TL.nil=mF g es:=by
 intro rr;induction rr with
 | nil=>exact rfl
 | cons e r ih=>exact aj (TL.cons (g e)) ih
theorem EU{g:Str}{gp pos:Pos}{es:List Expr}{v:Va}(S:St c l P s)(O:bM c)(hv:dQ K c.env.scope.names g=.con v)
  (h:∀ f s',ab f=v->St c l P s'->wpAny (MM wd) c.A (callWith pos f [] (backTo pos (starEach es c.env)) []) (Ok c l Q) (Exc c X) s'):kO c l X Q (.Call (.Name g gp) es [] pos) s:=by refine Call_ (bG (mV (n:=0) (X:=X) (Q:=λu P'=>u=v/\P'=P) S O (by rw[hv];exact⟨rfl,rfl⟩)) λf aP aF aH h₁=>?_);obtain⟨e,rfl⟩:=h₁;exact h f aF e aH
theorem Ma{f:Nat}(H:dN f)(O:bM c)(R:bP n c.A)(S:St c l P s){a:Expr}{fv:Va}{pos:Pos}{R':Va->PH->Prop}
  (hk:∀ h,True->∃ k,(k=Keeper.frame\/k=Keeper.machine\/k=Keeper.boundFrame)/\Looks (MM wd) h (keeperOf fv) k) (hs:[a].any isStar=false)
  (h:bE n (aC K f c.env.scope.names a) l P X R') (k:∀ v P' s',St c l P' s'->R' (ab v) P'->wpAny (MM wd) c.A (call fv [v]) (Ok c l Q) (Exc c X) s'):
  wpAny (MM wd) c.A (callWith pos fv [] (backTo pos (starEach [a] c.env)) []) (Ok c l Q) (Exc c X) s:=by refine cB (G:=λq=>True) hs hk (g8 (bG (H a c l P s X _ n O R S h) λv aP aF aH h₁=>?_));exact g7 ⟨trivial,k v aP aF aH h₁⟩
def pS(f:Nat):Prop:=∀(e o:Expr) (fv:Va) (pos:Pos) (c:Fx) (l:Lv) (P:PH) (s:Sh) (X:XP) (Q:VQ) (n:Nat),bM c->bP n c.A->St c l P s->fv=.type "dict"->vc e=some o->yX "list" (dQ K c.env.scope.names "list")=true->bE n (.prim .iV (.cons (aC K f c.env.scope.names o) .nil)) l P X Q->wpAny (MM wd) c.A (callWith pos fv [] (backTo pos (starEach [e] c.env)) []) (Ok c l Q) (Exc c X) s
theorem MH{f:Nat}(H:dN f)(I:pP K)(O:bM c)(R:bP n c.A)(S:St c l P s){a:Ad}{es:List Expr}{pos:Pos}(hs:es.any isStar=false)
  (h:bE n (if u9 K a then .call a (mF (aC K f c.env.scope.names) es) else if (qs.lookup (a,99)).isSome then .make a (mF (aC K f c.env.scope.names) es) else .bad) l P X Q):
  wpAny (MM wd) c.A (callWith pos (.ref a) [] (backTo pos (starEach es c.env)) []) (Ok c l Q) (Exc c X) s:=by
 split at h
 ·rename_i hf
  refine cB (G:=λh=>K.In h) hs (AX hf) (gJ (fN H O R hs S h) λvs aP aF aH h₁=>?_);exact⟨aH.CK O,qy aH O R h₁⟩
 ·split at h
  ·rename_i hm
   obtain⟨g,hm⟩:=cz hm;have M:=I.U8 a g hm;refine cB (G:=λh=>K.In h) hs (λh XK=>keeps_K M.kc h XK) (gJ (fN H O R hs S h) λvs aP aF aH h₁=>?_);refine⟨aH.CK O,?_⟩;have hm':bO a 99=some g:=hm;unfold NL at h₁;rw[hm'] at h₁;cases n with
   | zero=>exact ck h₁
   | succ k=>exact Mi M aH O R h₁
  ·exact ck h
theorem IJ{v:Va}{p:Prim}(h:B1 v p):∀ h,True->∃ k,(k=Keeper.frame\/k=Keeper.machine\/k=Keeper.boundFrame)/\Looks (MM wd) h (keeperOf v) k:=by cases h<;>first|exact tO|exact qi
theorem Sd{v a:Va}{p:Prim}{A:Around}(b:B1 v p)(S:St c l P s)(O:bM c)(hh:A.handled=none)(h:bD p [ab a] P Q):wpAny (MM wd) A (call v [a]) (Ok c l Q) E s:=by
 cases b with
 | list=>exact FU S O h hh
 | dict=>exact FP S O h
 | int=>exact PN S h
 | len=>exact PR S O h
 | abs=>exact PM S h
 | sum=>exact PX S h hh
theorem Se{v a:Va}{p:Prim}{A:Around}(b:B2 v p)(I:pP K)(S:St c l P s)(O:bM c)(h:bD p [ab a] P Q):wpAny (MM wd) A (call (.builtin "isinstance") [a,v]) (Ok c l Q) E s:=by
 cases b with
 | inst C=>exact FT I.ins S O h
 | num t ht=>exact Jz I.ins S O ht h
theorem C2{f:Nat}(H:dN f)(I:pP K)(O:bM c)(R:bP n c.A)(S:St c l P s){fv:Va}{es:List Expr}{pos:Pos}(hs:es.any isStar=false)
  (h:bE n (Hl (ab fv) (es.map (aC K f c.env.scope.names))) l P X Q):
  wpAny (MM wd) c.A (callWith pos fv [] (backTo pos (starEach es c.env)) []) (Ok c l Q) (Exc c X) s:=by
 match es,h with
 | [],hh=>exact ck hh
 | [e],hh=>
  replace hh:bE n (match b1 (ab fv) with
   | some p=>.prim p (.cons (aC K f c.env.scope.names e) .nil)
   | none=>.bad) l P X Q:=hh
  cases hb:b1 (ab fv) with
  | none=>rw[hb] at hh;exact ck hh
  | some p=>rw[hb] at hh;exact Ma H O R S (IJ (Na hb)) hs hh λv P' s' S' h'=>Sd (Na hb) S' O O.hh h'
 | [e,d],hh=>
  by_cases hi:RG (ab fv)=true
  ·replace hh:bE n (if RG (ab fv)=true then(match (HV (aC K f c.env.scope.names d)).bind b2 with
    | some p=>.prim p (.cons (aC K f c.env.scope.names e) .nil)
    | none=>.bad) else .bad) l P X Q:=hh
   rw[ai hi] at hh;obtain rfl:=OY hi;cases hb:(HV (aC K f c.env.scope.names d)).bind b2 with
   | none=>rw[hb] at hh;exact ck hh
   | some p=>rw[hb] at hh;obtain⟨u,h1,h2⟩:=dg hb;refine cB (G:=λq=>True) hs qi (g8 (bG (H e c l P s X _ n O R S hh) λv aP aF aH h₁=>?_));refine g8 (bG (H d c l aP aF X (λv2 P'=>v2=u/\P'=aP) n O R aH (by rw[Ld h1];exact⟨rfl,rfl⟩)) λv2 gV cE bU bA=>?_);obtain⟨e2,rfl⟩:=bA;exact g7 ⟨trivial,Se (Q2 (e2.symm▸h2)) I bU O h₁⟩
  ·replace hh:bE n (if RG (ab fv)=true then(match (HV (aC K f c.env.scope.names d)).bind b2 with
    | some p=>.prim p (.cons (aC K f c.env.scope.names e) .nil)
    | none=>.bad) else .bad) l P X Q:=hh
   rw[aa hi] at hh;exact ck hh
 | _::_::_::_,hh=>exact ck hh
set_option tactic.hygienic true in
theorem Gn{f:Nat}(H:dN f)(I:pP K)(O:bM c)(R:bP n c.A)(S:St c l P s){v fv:Va}{es:List Expr}{pos:Pos}(hs:es.any isStar=false)(hf:ab fv=v)
  (h:bE n (Nb K v (es.map (aC K f c.env.scope.names))) l P X Q):
  wpAny (MM wd) c.A (callWith pos fv [] (backTo pos (starEach es c.env)) []) (Ok c l Q) (Exc c X) s:=by
 subst hf;cases fv<;>first|exact C2 H I O R S hs h|skip
 rename_i a;replace h:bE n (if u9 K a then .call a ((es.map (aC K f c.env.scope.names)).foldr .cons .nil) else if (qs.lookup (a,99)).isSome then .make a ((es.map (aC K f c.env.scope.names)).foldr .cons .nil) else .bad) l P X Q:=h;rw[QV] at h;exact MH H I O R S hs h
end
section
section
variable{X:XP}{n:Nat}
structure Dt(f:Nat):Prop where
 items:pS f
 Ui:∀ k o cs vs,IP k o cs vs->∃ fd,o.data=.func fd
 lc:∀(elt it:Expr) (x:Str) (px pos:Pos) (ifs:List Expr) (sc:Scope) (k:Nat) (test:T) (c:Fx) (l:Lv) (P:PH) (s:Sh) (X:XP) (Q:VQ) (n:Nat),bM c->bP n c.A->St c l P s->isSet it=false->sc.names.findIdx? (λq=>q.1==x)=some k->((ifs=[]/\test=.con (.bool true))\/∃ t,ifs=[t]/\test=aC K f (iS c.env.scope.names sc.names) t)->A6 c.env.scope.names sc k=true->bE n (.lc (sc.names.map (mE c.env.scope.names)) k (aC K f c.env.scope.names it) (aC K f (iS c.env.scope.names sc.names) elt) test) l P X Q->kO c l X Q (.ListComp elt [⟨.Name x px,it,ifs,0⟩] sc pos) s
 lam:∀(body:Expr) (sc:Scope) (pos:Pos) (c:Fx) (l:Lv) (P:PH) (s:Sh) (X:XP) (Q:VQ) (n:Nat),bM c->bP n c.A->St c l P s->rD c.env.scope.names sc pos=true->bE n (.lam (pos.line*1000+pos.col) ((sc.names.takeWhile λq=>q.2==.free).map λq=>(c.env.scope.names.findIdx? (λp=>p.1==q.1)).getD 0) (aC K f sc.names body)) l P X Q->kO c l X Q (.Lambda ⟨[],[],none,[],[],none,[]⟩ body sc pos) s
 AJ:∀(ks:List (Op Expr)) (vs:List Expr) (pos:Pos) (ns:List Str) (c:Fx) (l:Lv) (P:PH) (s:Sh) (X:XP) (Q:VQ) (n:Nat),bM c->bP n c.A->St c l P s->jN ks=some ns->ns.length=vs.length->ks.length=vs.length->bE n (.AJ ns (fY (aC K f c.env.scope.names) vs)) l P X Q->kO c l X Q (.Dict ks vs pos) s
theorem mW{v:Va}{A:Around}{Q':Bool->Sh->Prop}{T F:Prop}(h:aV (ab v) T F)(ht:v=.bool true->T->Q' true s)(hf:v=.bool false->F->Q' false s):wpAny (MM wd) A (truthy v) Q' E s:=by
 rcases yw h with⟨rfl,q⟩|⟨rfl,q⟩
 ·exact bw (ht rfl q)
 ·exact bw (hf rfl q)
theorem AS{e:Expr}(h:II e=true):∃ k p,e=.Constant (.int 1) k p:=aN (eq_of_beq h) λ_ h e=>(uP h).elim λu h=>h.elim λp h=>⟨u,p,h.trans (aj (λk=>Expr.Constant k u p) (KZ e))⟩
theorem MU{u:UnaryOp}(h:S8 u=true):u=.USub:=by cases u<;>first|exact gR h|rfl
theorem Fc{e:Expr}(h:IG e=true):∃ k p p',e=.UnaryOp .USub (.Constant (.int 1) k p) p':=dK (xU h) λq h e=>(MX h).elim λp h=>
 have e:=dm e
 (AS e.2).elim λu w=>w.elim λv w=>⟨u,v,p,h.trans (by rw[MU e.1,w])⟩
theorem yl{f:Nat}(H:dN f)(O:bM c)(R:bP n c.A)(S:St c l P s){o i:Expr}{pos:Pos}{p:Prim}{k:Op Expr}(hi:zJ i=some (p,k))
  (h:bE n (match k with|none=>.prim p (.cons (aC K f c.env.scope.names o) .nil)|some k=>.prim p (.cons (aC K f c.env.scope.names o) (.cons (aC K f c.env.scope.names k) .nil))) l P X Q):kO c l X Q (.Subscript o i pos) s:=by
 refine aN hi λq h1 hi=>?_;obtain⟨sp,rfl⟩:=C1 h1;rcases Option.or_eq_some_iff.mp hi with hi|⟨-,hi⟩
 ·have hi:=wX hi
  have ab:=dm hi.1;refine aN hi.2 λe h3 hi=>?_;have hi:=wX hi;obtain⟨rfl,rfl⟩:=jb (kr hi.2);obtain⟨k1,p1,p2,rfl⟩:=Fc hi.1;rw[Option.isNone_iff_eq_none.mp ab.1,Option.isNone_iff_eq_none.mp ab.2,h3];refine Subscript_ (bG (H o c l P s X _ n O R S h) λv aP aF aH h₁=>?_);refine wpAny_Slice (aq (aq (UnaryOp_ (wpAny_Constant_int (PyProof.Rows.neg_int ?_)))));exact PW (aH.toks _) h₁ (.int _ _) (λj j=>rfl)
 rcases Option.or_eq_some_iff.mp hi with hi|⟨-,hi⟩
 ·have hi:=wX hi
  have ab:=dm hi.1;refine dK hi.2 λk' h3 hi=>?_;obtain⟨rfl,rfl⟩:=jb hi;rw[Option.isNone_iff_eq_none.mp ab.1,Option.isNone_iff_eq_none.mp ab.2,h3];refine Subscript_ (bG (H o c l P s X _ n O R S h) λv aP aF aH h₁=>?_);exact wpAny_Slice (aq (bG (H _ c l aP aF X _ n O R aH h₁) λkv gV cE bU bA=>aq (Mj bU O bA λj j=>rfl)))
 ·refine aN hi λe h3 hi=>?_
  have hi:=wX hi;obtain⟨rfl,rfl⟩:=jb (kr hi.2);have ab:=dm hi.1;have cd:=dm ab.1;obtain⟨k1,p1,rfl⟩:=AS cd.1;rw[h3,Option.isNone_iff_eq_none.mp ab.2,Option.isNone_iff_eq_none.mp cd.2];refine Subscript_ (bG (H o c l P s X _ n O R S h) λv aP aF aH h₁=>?_);refine wpAny_Slice (wpAny_evalPart_some (wpAny_Constant_int (aq (aq ?_))));exact Jx (aH.toks _) h₁ λj j=>rfl
set_option tactic.hygienic true in
theorem tN{s:String}{t:T}(h:yX s t=true):t=.con (.type s):=by
 cases t<;>first|cases h|skip
 rename_i v;cases v<;>first|cases h|skip
 rw[beq_iff_eq.mp h]
section
variable{f:Nat}(H:dN f)(O:bM c)(R:bP n c.A)(S:St c l P s)
include H O R S
theorem Bw{a b:Expr}{pos:Pos}(h:bE n (.and (aC K f c.env.scope.names a) (aC K f c.env.scope.names b)) l P X Q):kO c l X Q (.BoolOp .And [a,b] pos) s:=by
 refine BoolOp_and (bG (H a c l P s X _ n O R S h) λv aP aF aH h₁=>?_);refine mW h₁ (λj q=>?_) λhv q=>?_
 ·exact BoolOp_one (H b c l aP aF X Q n O R aH q)
 ·subst hv;exact aH.ok q
theorem Ew{a b:Expr}{pos:Pos}(h:bE n (.or (aC K f c.env.scope.names a) (aC K f c.env.scope.names b)) l P X Q):kO c l X Q (.BoolOp .Or [a,b] pos) s:=by
 refine BoolOp_or (bG (H a c l P s X _ n O R S h) λv aP aF aH h₁=>?_);refine mW h₁ (λhv q=>?_) λj q=>?_
 ·subst hv;exact aH.ok q
 ·exact BoolOp_one (H b c l aP aF X Q n O R aH q)
theorem JY{op:BoolOp}{es:List Expr}{pos:Pos}(h:bE n (HN op (es.map (aC K f c.env.scope.names))) l P X Q):kO c l X Q (.BoolOp op es pos) s:=by
 rcases Ky h with⟨_,_,q⟩|⟨_,_,_,q⟩
 ·obtain⟨a,b,rfl⟩:=map_two q
  cases op
  ·exact Bw H O R S h
  ·exact Ew H O R S h
 ·obtain⟨a,b,d,rfl⟩:=x8 q
  cases op
  ·replace h:bE n (.and (aC K f c.env.scope.names a) (.and (aC K f c.env.scope.names b) (aC K f c.env.scope.names d))) l P X Q:=h
   refine BoolOp_and (bG (H a c l P s X _ n O R S h) λv aP aF aH h₁=>?_);refine mW h₁ (λj q=>?_) λhv q=>?_
   ·exact Bw (pos:=pos) H O R aH q
   ·subst hv;exact aH.ok q
  ·replace h:bE n (.or (aC K f c.env.scope.names a) (.or (aC K f c.env.scope.names b) (aC K f c.env.scope.names d))) l P X Q:=h
   refine BoolOp_or (bG (H a c l P s X _ n O R S h) λv aP aF aH h₁=>?_);refine mW h₁ (λhv q=>?_) λj q=>?_
   ·subst hv;exact aH.ok q
   ·exact Ew (pos:=pos) H O R aH q
set_option tactic.hygienic true in
theorem C3{v fv:Va}{as:List Expr}{o:Expr}{pos:Pos}(M:pS f)(hf:ab fv=v)(hm:qh v as=some o)(hl:yX "list" (dQ K c.env.scope.names "list")=true)
  (h:bE n (.prim .iV (.cons (aC K f c.env.scope.names o) .nil)) l P X Q):wpAny (MM wd) c.A (callWith pos fv [] (backTo pos (starEach as c.env)) []) (Ok c l Q) (Exc c X) s:=by
 cases v<;>first|cases hm|skip
 rename_i t;unfold qh at hm;dsimp only at hm;have hm:=wX hm;obtain rfl:=beq_iff_eq.mp hm.1
 match as,hm.2 with
 | [e],hm=>exact M e o fv pos c l P s X Q n O R S (tw hf) hm hl h
 | [],hm=>exact bB hm
 | _::_::_,hm=>exact bB hm
omit H O R S in
theorem EY{g:Expr->T}{es:List Expr}(h:fY g es=.nil):es=[]:=by
 cases es with
 | nil=>rfl
 | cons e r=>
  unfold fY at h;by_cases q:(e::r).any isStar=true
  ·rw[ai q] at h;cases h
  ·rw[aa q] at h;cases h
omit H O R S in
theorem Ff{a:Ad}{o:Obj}{fd:FuncData}{M:Model}(hd:o.data=.func fd)(h:Heap)(e:h.get? a=some o):∃ k,(k=Keeper.frame\/k=Keeper.machine\/k=Keeper.boundFrame)/\Looks M h (keeperOf (.ref a)) k:=by refine⟨.frame,.inl rfl,λA Q E s k q=>?_⟩;unfold keeperOf;refine af (wpAny_load (k _ _ e) ?_);rw[hd];exact aq q
set_option tactic.hygienic true in
theorem Qf(I:pP K)(M:pS f)(ML:∀ k o cs vs,IP k o cs vs->∃ fd,o.data=.func fd){x:Str}{gp pos:Pos}{as:List Expr}(h:bE n (HP K c.env.scope.names (aC K f c.env.scope.names) x as) l P X Q):kO c l X Q (.Call (.Name x gp) as [] pos) s:=by
 obtain⟨hs,h⟩:=EB h
 ·generalize hv:dQ K c.env.scope.names x=t at h
  cases t<;>first|exact ck h|skip
  ·rename_i v
   refine EU S O hv λfv s' hf S'=>?_;dsimp only at h;cases hm:qh v as with
   | some o=>rw[hm] at h;dsimp only at h;exact C3 H O R S' M hf hm (wg h).1 (wg h).2
   | none=>rw[hm] at h;exact Gn H I O R S' hs hf h
  ·rename_i i
   obtain⟨_,h⟩:True/\bE n (.Ay (dQ K c.env.scope.names x) (fY (aC K f c.env.scope.names) as)) l P X Q:=⟨trivial,by rw[hv];exact h⟩
   refine Call_ (bG (mV (n:=n) S O h) λfv aP aF aH h₁=>?_);cases fv<;>first|exact ck h₁|skip
   obtain⟨ha,h₁⟩:=h₁;rcases ha with ha|⟨ha,k,vs,hP⟩
   ·refine cB (G:=λh=>K.In h) hs (AX (I.act _ ha)) (gJ (fN H O R hs aH (dS h₁).2) λvs gV cE bU bA=>?_)
    exact⟨bU.CK O,qy bU O R bA⟩
   ·obtain rfl:=EY ha
    obtain⟨m,G,D,Ai⟩:=id aH;obtain⟨o,cs,eo,hlo,_⟩:=(Ai.sat.rel _ _ hP).2;obtain⟨fd,hd⟩:=ML _ _ _ _ hlo;exact cB (G:=λh=>h.get? _=some o) hs (Ff hd) (g7 ⟨eo,qy aH O R h₁⟩)
omit H O R S in
theorem IF(I:pP K){C g:Ad}(h:yT C=some g):EE K C g:=by
 unfold yT at h;by_cases q:C=765
 ·rw[ai q] at h;obtain rfl:=kr h;exact q▸I.ex.U4
 ·rw[aa q] at h;exact(I.U8 C g h).cls
theorem Gx(I:pP K){o:Expr}{apos pos:Pos}{as:List Expr}(h3:fJ o=false)(h4:as.any isStar=false)(h1:as.length<20)(h2:(apos.endLine==pos.line)=true)(ho:aC K f c.env.scope.names o=.con (.type "ValueError"))(hl:as.length=2)
  (h:bE n (.prim .BO (fY (aC K f c.env.scope.names) as)) l P X Q):kO c l X Q (.Call (.Attribute o "__init__" apos) as [] pos) s:=by refine call_meth h3 h4 h1 h2 (bG (H o c l P s X (λv P'=>v=.type "ValueError"/\P'=P) n O R S (by rw[ho];exact⟨rfl,rfl⟩)) λov aP aF aH h₁=>?_);obtain⟨e,rfl⟩:=h₁;have:=tw e;subst this;intro pl;refine GR (aH.CK O) ?_;refine cB (G:=λh=>K.In h) h4 (λh q=>qi h trivial) (gJ (fN H O R h4 (aH.toks _) (dS h).2) λvs qR jH dX bY=>?_);refine⟨dX.CK O,Ju bY λa b e bY=>?_⟩;subst e;obtain⟨a,rfl,bY⟩:=cD bY;obtain⟨_,hP,rfl,hQ⟩:=L8 bY;exact FW (I.ex.at_ (dX.CK O)) dX hP hQ
set_option tactic.hygienic true in
theorem Gp(I:pP K){o:Expr}{apos pos:Pos}{as:List Expr}(h3:fJ o=false)(h4:as.any isStar=false)(h1:as.length<20)(h2:(apos.endLine==pos.line)=true)
  (h:bE n (match Cs (aC K f c.env.scope.names o) with
   | some C=>(yT C).elim .bad λf'=>.call f' (fY (aC K f c.env.scope.names) as)
   | none=>if yX "ValueError" (aC K f c.env.scope.names o)&&as.length==2 then .prim .BO (fY (aC K f c.env.scope.names) as) else .bad) l P X Q):kO c l X Q (.Call (.Attribute o "__init__" apos) as [] pos) s:=by
 cases hC:Cs (aC K f c.env.scope.names o) with
 | none=>
  rw[hC] at h;dsimp only at h
  ·have⟨q,h⟩:=wg h
   have q:=dm q;exact Gx H O R S I h3 h4 h1 h2 (tN q.1) (beq_iff_eq.mp q.2) h
 | some C=>
  rw[hC] at h;dsimp only at h
  have hC:aC K f c.env.scope.names o=.con (.ref C):=by
   generalize aC K f c.env.scope.names o=t at hC;cases t<;>first|cases hC|skip
   rename_i v;cases v<;>first|cases hC|skip
   rfl
  refine lD h λg hg h=>?_
  ·have Mk:=IF I hg
   obtain⟨_,h⟩:=dS h;refine call_meth h3 h4 h1 h2 (bG (H o c l P s X (λv P'=>v=.ref C/\P'=P) n O R S (by rw[hC];exact⟨rfl,rfl⟩)) λov aP aF aH h₁=>?_);obtain⟨e,rfl⟩:=h₁;have:=uh e;subst this;intro pl;refine wV aH O Mk λcE bU=>?_;refine cB (G:=λh=>K.In h) h4 (λh XK=>keeps_K Mk.kf h XK) (gJ (fN H O R h4 bU h) λvs qR jH dX bY=>?_);exact⟨dX.CK O,qy dX O R bY⟩
set_option tactic.hygienic true in
theorem Qe(I:pP K){o:Expr}{x:Str}{apos pos:Pos}{as:List Expr}(h:bE n (HO (aC K f c.env.scope.names) o x apos pos as) l P X Q):kO c l X Q (.Call (.Attribute o x apos) as [] pos) s:=by
 obtain⟨hc,h⟩:=wg h
 ·simp only[e9,decide_eq_true_eq,i6] at hc
  obtain⟨⟨⟨h1,h2⟩,h3⟩,h4⟩:=hc;by_cases hx:(x==("__init__":Str))=true
  ·obtain rfl:=beq_iff_eq.mp hx
   exact Gp H O R S I h3 h4 h1 h2 h
  ·rw[aa hx] at h
   cases hp:DC x as.length with
   | some p=>rw[hp] at h;exact Qd H O R S h3 h4 h1 h2 hp h
   | none=>
    rw[hp] at h;refine lD h λm hm h=>?_
    ·refine call_meth h3 h4 h1 h2 (bG (H o c l P s X _ n O R S h) λov aP aF aH h₁=>?_)
     intro pl;cases ov<;>first|exact ck h₁|skip
     rename_i a;obtain⟨C,fs,hP,h₁⟩:=KR (F:=λC fs=>match bO C m with
       | some f'=>(match bL m with
        | some x=>eH x fs=none
        | none=>True)/\GU n (fY (aC K f c.env.scope.names) as) l aP X λvs P=>Calls n f' (.ref a::vs) P X Q
       | none=>False) h₁
     cases hf':bO C m with
     | none=>rw[hf'] at h₁;exact ck h₁
     | some f'=>
     rw[hf'] at h₁;obtain⟨h5,h6⟩:=h₁;obtain⟨hi,e1,_⟩:=List.findIdx?_eq_some_iff_getElem.mp hm;have lm:gZ.length=24:=⋯;have hne:m≠99:=by lia
     have Mm:=I.V2 C m f' hf' hne
     have en:gZ.getD m ""=x:=by
      rw[gw,f9 hi]
      simpa using e1
     rw[en] at Mm;unfold bL at h5;rw[en] at h5;refine uV aH O hP Mm h5 ?_;refine cB (G:=λh=>K.In h) h4 (λh XK=>keeps_K Mm.kp h XK) (gJ (fN H O R h4 aH (dS h6).2) λvs qR jH dX bY=>?_);exact⟨dX.CK O,qy (args:=.ref a::vs) dX O R bY⟩
theorem JZ(M:Dt f){ks:List (Op Expr)}{vs:List Expr}{pos:Pos}(h:bE n (Nj (aC K f c.env.scope.names) ks vs) l P X Q):kO c l X Q (.Dict ks vs pos) s:=by
 cases ks with
 | nil=>
  cases vs with
  | nil=>exact Jw S h
  | cons _ _=>exact ck h
 | cons k ks=>
  refine lD h λns hn h=>?_
  ··have⟨hz,h⟩:=wg h
    have hz:=dm hz;exact M.AJ _ _ _ ns c l P s X Q n O R S hn (beq_iff_eq.mp hz.1) (beq_iff_eq.mp hz.2) h
end
theorem IT{g:Expr->T}{ifs:List Expr}{t:T}(h:NJ g ifs=some t):(ifs=[]/\t=.con (.bool true))\/∃ e,ifs=[e]/\t=g e:=by
 match ifs,h with
 | [],h=>obtain rfl:=kr h;exact .inl ⟨rfl,rfl⟩
 | [e],h=>obtain rfl:=kr h;exact .inr ⟨e,rfl,rfl⟩
 | _::_::_,h=>cases h
set_option tactic.hygienic true in
theorem xN{ns:NS}{g h:Expr->T}{elt:Expr}{gens:List Comprehension}{sc:Scope}(hw:bE n (HR ns g h elt gens sc) l P X Q):∃ x px it ifs k t,gens=[⟨.Name x px,it,ifs,0⟩]/\isSet it=false/\sc.names.findIdx? (λp=>p.1==x)=some k/\A6 ns sc k=true/\((ifs=[]/\t=.con (.bool true))\/∃ e,ifs=[e]/\t=h e)/\bE n (.lc (sc.names.map (mE ns)) k (g it) (h elt) t) l P X Q:=by refine lD hw λq hq hw=>lD hw λx hx hw=>?_;obtain⟨px,hx⟩:=iW hx;obtain⟨tg,it,ifs,as⟩:=q;obtain⟨hs,hw⟩:=EB hw;have hs:=Bool.or_eq_false_iff.mp hs;refine lD hw λk hk hw=>?_;obtain⟨hl,hw⟩:=wg hw;refine lD hw λt ht hw=>?_;exact⟨x,px,it,ifs,k,t,by rw[k8 hq,show tg=_ from hx,show as=0 from bne_eq_false_iff_eq.mp hs.2],hs.1,hk,hl,IT ht,hw⟩
set_option tactic.hygienic true in
theorem Gl{f:Nat}(H:dN f)(HT:sG f)(I:pP K)(M:Dt f):dN (f+1):=by
 intro e c l P s X Q n O R S h;cases e<;>first|exact ck h|skip
 ·exact JY H O R S h
 ·rename_i a op b pos
  exact lD h λp hp h=>wpAny_BinOp (t7 H O R S h λva vb P' s' S' h'=>MF hp S' h')
 ·rename_i op a pos
  cases op<;>first|exact ck h|skip
  refine UnaryOp_ (bG (H a c l P s X _ n O R S h) λv aP aF aH h₁=>?_);exact not_of (mW h₁ (λj q=>aH.ok q) λj q=>aH.ok q)
 ·rename_i args body sc pos
  replace h:bE n (if noArgs args&&rD c.env.scope.names sc pos then .lam (pos.line*1000+pos.col) ((sc.names.takeWhile λq=>q.2==.free).map λq=>(c.env.scope.names.findIdx? (λp=>p.1==q.1)).getD 0) (aC K f sc.names body) else .bad) l P X Q:=h
  ·have⟨hl,hv⟩:=wg h
   rw[e9] at hl;obtain rfl:=FL hl.1;exact M.lam _ _ _ c l P s X Q n O R S hl.2 hv
 ·rename_i t a b pos
  refine IfExp_ (nR (HT t c l P s X (λP=>bE n (aC K f c.env.scope.names a) l P X Q) (λP=>bE n (aC K f c.env.scope.names b) l P X Q) n O R S h) λr aP aF aH h₁=>?_);cases r
  ·exact H b c l aP aF X Q n O R aH h₁
  ·exact H a c l aP aF X Q n O R aH h₁
 ·exact JZ H O R S M h
 ·rename_i elt gens sc pos
  obtain⟨x,px,it,ifs,k,t,rfl,h1,h2,h3,h4,h5⟩:=xN h;exact M.lc _ _ _ px _ ifs _ k t c l P s X Q n O R S h1 h2 h4 h3 h5
 ·rename_i a ops bs pos
  obtain⟨op,b,p,rfl,rfl,hp,hb,h⟩:=Kw h;exact wpAny_Compare1 (t7 H O R S h λva vb P' s' S' h'=>Eu hp S' O R h') (vH hb)
 ·rename_i fn as kws pos
  cases kws with
  | cons _ _=>exact ck h
  | nil=>
   cases fn<;>first|exact ck h|skip
   ·exact Qe H O R S I h
   ·exact Qf H O R S I M.items M.Ui h
 ·rename_i k i pos
  cases k<;>first|exact ck h|skip
  ·exact aq (S.ok h)
  ·exact aq (S.ok h)
  ·exact wpAny_Constant_int ((S.toks _).ok h)
  ·exact wpAny_Constant_str ((S.toks _).ok h)
 ·rename_i o x pos
  refine lD h λk hk h=>?_
  ··obtain⟨hb,h⟩:=EB h
    refine Attribute_any_ (bG (H o c l P s X _ n O R S h) λv aP aF aH h₁=>?_) (tC hb);exact mU I aH O (qu hk) h₁
 ·rename_i o i pos
  replace h:bE n (match zJ i with
   | some q=>.prim q.1 (.cons (aC K f c.env.scope.names o) (match q.2 with
    | none=>.nil
    | some k=>.cons (aC K f c.env.scope.names k) .nil))
   | none=>if isSlice i then .bad else .prim .item (.cons (aC K f c.env.scope.names o) (.cons (aC K f c.env.scope.names i) .nil))) l P X Q:=h
  cases hp:zJ i with
  | some q=>
   rw[hp] at h;obtain⟨p,k⟩:=q;cases k with
   | none=>exact yl H O R S hp h
   | some k=>exact yl H O R S hp h
  | none=>
   rw[hp] at h;dsimp only at h
   ·obtain⟨hi,h⟩:=EB h
    exact Subscript_ (t7 H O R S h λva vb P' s' S' h'=>Mg S' O h' (GD hi))
 ·exact mV S O h
 ·rename_i es pos
  obtain⟨hs,h⟩:=dS h;refine List_ ?_;rw[iY hs];refine gJ (fN H O R hs S h) λvs aP aF aH h₁=>?_;exact Mh aH h₁
 ·rename_i es k pos
  obtain⟨hs,h⟩:=dS h;refine Tuple_ ?_;rw[iY hs];refine gJ (fN H O R hs S h) λvs aP aF aH h₁=>?_;exact JD aH h₁
end
end
section
section
variable{X:XP}{N:NP}{R:VQ}{n:Nat}
noncomputable def aK(ns:NS):List Bool:=ns.map λq=>q.2==.cell
inductive Vv(c:Fx)(N:NP)(s:Sh):Prop
 | mk (l:Lv) (P:PH) (S:St c l P s) (h:N l P)
inductive Vw(c:Fx)(R:VQ)(v:Va)(s:Sh):Prop
 | mk (l:Lv) (P:PH) (S:St c l P s) (h:R (ab v) P)
def Fl(c:Fx)(N:NP)(R:VQ)(fl:Flow)(s:Sh):Prop:=match fl with
 | .next=>Vv c N s
 | .ret v=>Vw c R v s
 | _=>False
def bN(c:Fx)(X:XP)(N:NP)(R:VQ)(st:Stmt)(s:Sh):Prop:=wpAny (MM wd) c.A (exec st c.env) (Fl c N R) (Exc c X) s
theorem St.next(S:St c l P s)(h:N l P):Fl c N R .next s:=⟨l,P,S,h⟩
theorem yo{v:Expr}{t:Op Expr}{line:Nat}{env:Env}(h:yW v=false):swapsWith v t line env=pure false:=by cases v<;>first|rfl|cases h
theorem C8{v o:Expr}{x:Str}{pos:Pos}{line:Nat}{env:Env}:swapsWith v (some (.Attribute o x pos)) line env=pure false:=by cases v<;>rfl
theorem GG{v o i:Expr}{pos:Pos}{line:Nat}{env:Env}:swapsWith v (some (.Subscript o i pos)) line env=pure false:=by cases v<;>rfl
theorem FI{x:Str}{ns:NS}{j:Nat}(hj:dQ K ns x=.loc j):∃ k,ns[j]?=some (x,k):=by
 have N:=vE ns x;rw[hj] at N;cases N with
 | loc _ k h=>exact⟨k,h⟩
theorem u7{x:Str}{p:Pos}{ns:NS}{i:Nat}(h:idxOf K ns (.Name x p)=some i):ns[i]?=some (x,.local)\/ns[i]?=some (x,.cell):=
 have h:(D8 (dQ K ns x)).bind (λi=>if Pj ns[i]? then some i else none)=some i:=h
 aN h λj h e=>(FI (IW h)).elim λk hk=>cL e (λq w=>by rw[hk] at q;rw[<-w,hk];cases k<;>first|exact .inl rfl|exact .inr rfl|exact gR q) bB
theorem rL{ns:NS}{i:Nat}{x:Str}(h:ns[i]?=some (x,.local)):kD (aK ns) i P=P:=by unfold kD aK;rw[gw,gj,h];rfl
theorem J3{ns:NS}{i:Nat}{x:Str}(h:ns[i]?=some (x,.cell)):kD (aK ns) i P=bJ P:=by unfold kD aK;rw[gw,gj,h];rfl
theorem nP{x:Str}{p:Pos}{i:Nat}{Q':Unit->Sh->Prop}{A:Around}(S:St c l P s)(O:bM c)(he:c.aZ=c.env)(hi:idxOf K c.env.scope.names (.Name x p)=some i)(v:Va)
  (h:∀ s',St c (l.set i (some (ab v))) (kD (aK c.env.scope.names) i P) s'->Q' ⟨⟩ s'):wpAny (MM wd) A (storeName c.env x v) Q' E s:=by
 rcases u7 hi with q|q
 ·rw[rL q] at h
  exact S.store O q v h
 ·rw[J3 q] at h
  obtain⟨a,ha⟩:=O.cA x (aT O.nd q);exact S.GA O he q ha v h
set_option tactic.hygienic true in
theorem jR{a v:Va}{k:Nat}{x:Str}{Q':Unit->Sh->Prop}{A:Around}(I:pP K)(S:St c l P s)(O:bM c)(hx:x=nm k){N:PH->Prop}(h:match ab a with|.ref a=>wk a k (ab v) P N|_=>False)(hQ:∀ P' s',St c l P' s'->N P'->Q' ⟨⟩ s'):wpAny (MM wd) A (setAttr a x v) Q' E s:=by
 cases a<;>first|exact ck h|skip
 rename_i a;replace h:wk a k (ab v) P N:=h;unfold wk at h;cases hP:P a with
 | none=>rw[hP] at h;exact ck h
 | some o=>
 rw[hP] at h;cases o<;>first|exact ck h|skip
 ·obtain⟨h1,h2,h3⟩:=h
  exact CV S O hP (I.fld _ _ h1) hx h2 λs' S'=>hQ _ _ S' h3
 ·obtain⟨⟨rfl,h1⟩,h3⟩:=h
  exact CU I.ex.exc S O hP h1 (CB h1) hx λs' S'=>hQ _ _ S' h3
 ·obtain⟨⟨rfl,h1,h2⟩,h3⟩:=h
  exact Bk I.ex.exc S O hP h1 (CB h1) h2 hx λs' S'=>hQ _ _ S' h3
theorem cO{f:Nat}(H:dN f)(O:bM c)(Rm:bP n c.A)(S:St c l P s){e:Expr}{Q':VS}
  (h:bE n (aC K f c.env.scope.names e) l P X Q) (k:∀ v P' s',St c l P' s'->Q (ab v) P'->Q' v s'):wpAny (MM wd) c.A (eval e c.env) Q' (Exc c X) s:=ak (H e c l P s X Q n O Rm S h) (λv s' ⟨P',S',q⟩=>k v P' s' S' q) λj j x=>x
section
variable(H:dN 30)(HT:sG 30)(I:pP K)(O:bM c)(Rm:bP n c.A)(S:St c l P s)
include H O Rm S
theorem Ez{e:Expr}{pos:Pos}(hi:interactive c.env=false)(hl:yW e=false)(h:wpS n (aK c.env.scope.names) (.expr (aC K 30 c.env.scope.names e)) l P X N R):bN c X N R (.Expr e pos) s:=wpAny_Expr_any (cO H O Rm S h λq q q S' h'=>S'.next h') hi (yo hl)
theorem Qi(he:c.aZ=c.env){x:Str}{p pos:Pos}{v:Expr}{i:Nat}(hi:idxOf K c.env.scope.names (.Name x p)=some i)(hl:yW v=false)(h:wpS n (aK c.env.scope.names) (.dR i (aC K 30 c.env.scope.names v)) l P X N R):bN c X N R (.Assign [.Name x p] v pos) s:=wpAny_Assign_Name (cO H O Rm S h λu q q S' h'=>nP S' O he hi u λq qM=>qM.next h') (yo hl)
theorem Qk{e:Expr}{pos:Pos}(h:wpS n (aK c.env.scope.names) (.ret (aC K 30 c.env.scope.names e)) l P X N R):bN c X N R (.Return (some e) pos) s:=wpAny_Return_some (cO H O Rm S h λq P' q S' h'=>⟨l,P',S',h'⟩)
include I
theorem MJ{o v:Expr}{x:Str}{p pos:Pos}{k:Nat}(hk:lX.findIdx? (·==x)=some k)(h:wpS n (aK c.env.scope.names) (.bI (aC K 30 c.env.scope.names o) k (aC K 30 c.env.scope.names v)) l P X N R):bN c X N R (.Assign [.Attribute o x p] v pos) s:=plainObj_wpAny_Assign_Attribute (cO H O Rm S h λ_ _ _ aH h₁=>cO H O Rm aH h₁ λ_ _ _ bU bA=>jR I bU O (qu hk) bA λ_ _ dX bY=>dX.next bY) C8
set_option tactic.hygienic true in
theorem Qj{o v:Expr}{x:Str}{p pos:Pos}{k:Nat}(hk:lX.findIdx? (·==x)=some k)
  (h:wpS n (aK c.env.scope.names) (.aug (aC K 30 c.env.scope.names o) k (aC K 30 c.env.scope.names v)) l P X N R):bN c X N R (.AugAssign (.Attribute o x p) .Add v pos) s:=by
 refine wpAny_AugAssign_AttributeAny (cO H O Rm S h λa aP aF aH h₁=>?_);cases a<;>first|exact ck h₁|skip
 rename_i a;refine bG (mU I aH O (qu hk) h₁) λold gV cE bU bA=>?_;refine cO H O Rm bU bA λu qR jH dX bY=>?_;cases old<;>first|exact ck bY|skip
 all_goals (cases u<;>first|exact ck bY|skip)
 refine PyProof.Rows.iadd_int ?_;exact jR (v:=.int _ _) I (dX.toks _) O (qu hk) bY λ_ _ lM sN=>lM.next sN
omit I
theorem J8{o i v:Expr}{p pos:Pos}(h:wpS n (aK c.env.scope.names) (.fG (aC K 30 c.env.scope.names o) (aC K 30 c.env.scope.names i) (aC K 30 c.env.scope.names v)) l P X N R):bN c X N R (.Assign [.Subscript o i p] v pos) s:=wpAny_Assign_Subscript (cO H O Rm S h λ_ _ _ aH h₁=>cO H O Rm aH h₁ λ_ _ _ bU bA=>cO H O Rm bU bA λ_ _ _ dX bY=>pB dX O bY λ_ _ lM sN=>lM.next sN) GG
include HT
theorem SR{t:Expr}{a b:List Stmt}{ta tb:U}{pos:Pos}(h:wpS n (aK c.env.scope.names) (.bF (aC K 30 c.env.scope.names t) ta tb) l P X N R)
  (ha:∀ P' s',St c l P' s'->wpS n (aK c.env.scope.names) ta l P' X N R->wpAny (MM wd) c.A (execs a c.env) (Fl c N R) (Exc c X) s')
  (hb:∀ P' s',St c l P' s'->wpS n (aK c.env.scope.names) tb l P' X N R->wpAny (MM wd) c.A (execs b c.env) (Fl c N R) (Exc c X) s'):bN c X N R (.If t a b pos) s:=by
 refine wpAny_If (nR (HT t c l P s X _ _ n O Rm S h) λr aP aF aH h₁=>?_);cases r
 ·exact hb _ _ aH h₁
 ·exact ha _ _ aH h₁
end
end
end
section
variable{X:XP}{N:NP}{R:VQ}{n:Nat}{I:Ad}{p p':Obj->Prop}
noncomputable def pinned(c:Fx)(I:Ad)(p:Obj->Prop):Fx:={ c with F:=cJ c.F I p }
def nT(p:Obj->Prop):Prop:=∀ o,p o->(∀ v,o.data≠.cell v)/\∀ m,¬ dI m o
theorem nG(h:∀ o,p o->∃ vs,o.data=.fields vs):nT p:=λo q=>by obtain⟨vs,hv⟩:=h o q;exact⟨λv e=>(by rw[hv] at e;cases e),λm po=>gI po vs hv⟩
theorem Ip(h:∀ o,p o->∃ vs n,o.data=.seq vs n):nT p:=λo q=>by obtain⟨vs,n,hv⟩:=h o q;refine⟨λv e=>(by rw[hv] at e;cases e),λm po=>?_⟩;obtain⟨es,ep,hd,_⟩:=po;rw[hv] at hd;cases hd
theorem nT.nK(h:nT p):pR p:=λo q v e=>(h o q).1 _ e
theorem pT(S:mj c l P s m G D)(hp:nT p)(hI:G I=some p){a:Ad}{mm:Str->Op Va}(ha:G a=some (dI mm)):a≠I:=by
 rintro rfl
 obtain⟨_,o,eo,po⟩:=S.sat.hid _ _ hI;obtain⟨_,o',eo',po'⟩:=S.sat.hid _ _ ha;rw[eo] at eo';obtain rfl:=kr eo';exact(hp _ po).2 _ po'
theorem nv(S:mj c l P s m G D)(hp:nT p)(hI:G I=some p){a:Ad}{v:Op Va}(ha:G a=some (eU v)):a≠I:=by
 rintro rfl
 obtain⟨_,o,eo,po⟩:=S.sat.hid _ _ hI;obtain⟨_,o',eo',po'⟩:=S.sat.hid _ _ ha;rw[eo] at eo';obtain rfl:=kr eo';exact(hp _ po).1 _ po'
theorem I4{env:Env}(L:lF env G m l)(h:∀ a v,G a=some (eU v)->a≠I):lF env (cJ G I p) m l:=λi v e=>by
 obtain⟨x,k,hx,b⟩:=L i v e;refine⟨x,k,hx,?_⟩;rcases b with b|⟨hc,a,v',ea,ga,q⟩
 ·exact .inl b
 ·exact .inr ⟨hc,a,v',ea,by rw[aE (h _ _ ga)];exact ga,q⟩
theorem bM.pin(O:bM c)(S:St c l P s)(hs:s.heap.objs.size<=I):bM (pinned c I p)/\c.F I=none:=by
 obtain⟨m,G,D,S⟩:=S
 have lt:∀ a q,G a=some q->a≠I:=λa q h=>by
  rintro rfl
  obtain⟨_,o,eo,_⟩:=S.sat.hid _ _ h;exact absurd (fy eo) (Nat.not_lt.mpr hs)
 refine⟨⟨O.hA,O.hh,O.knd,O.qN,O.KA,O.nd,?_,λhe x a h1 h2=>?_,O.cI,O.fk,O.X,O.top,O.big,O.st,λe he=>?_,O.cA,O.fl,O.OB,O.Oi,O.HJ⟩,?_⟩
 ·exact(aE (lt _ _ S.loc)).trans O.nF
 ·obtain⟨v,hv⟩:=S.oF x a h1
  exact(aE (lt _ _ hv)).trans (O.cF he x a h1 h2)
 ·obtain⟨h1,Li,mi,h2,h3⟩:=O.frs e he
  exact⟨h1,Li,mi,h2,(aE (lt _ _ (S.ext _ _ h3))).trans h3⟩
 ·cases q:c.F I with
  | none=>rfl
  | some r=>exact absurd rfl (lt _ _ (S.ext _ _ q))
theorem St.pin(S:St c l P s)(k:gU s.heap s'.heap)(t:Step s s')(hs:s.heap.objs.size<=I)(ho:∃ o,s'.heap.get? I=some o/\p o):St (pinned c I p) l P s':=by
 obtain⟨m,G,D,S⟩:=S
 have lt:∀ a q,G a=some q->a≠I:=λa q h=>by
  rintro rfl
  obtain⟨_,o,eo,_⟩:=S.sat.hid _ _ h;exact absurd (fy eo) (Nat.not_lt.mpr hs)
 obtain⟨z1,z2⟩:=S.sat.lt hs;refine⟨m,cJ G I p,D,λa q h=>?_,(aE (lt _ _ S.loc)).trans S.loc,?_,λx a h=>?_,λa q h=>?_,?_,I4 S.lv λa v h=>lt _ _ h,t.g.trans S.gens,t.o.trans S.os⟩
 ·by_cases ha:a=I
  ·subst ha
   rw[show(pinned c a p).F a=some p from aJ ..] at h;obtain rfl:=kr h;exact aJ ..
  ·rw[show(pinned c I p).F a=c.F a from aE ha] at h;exact(aE ha).trans (S.ext _ _ h)
 ·obtain⟨Lf,mf,e1,e2⟩:=S.nU
  exact⟨Lf,mf,e1,(aE (lt _ _ e2)).trans e2⟩
 ·obtain⟨v,hv⟩:=S.oF x a h
  exact⟨v,(aE (lt _ _ hv)).trans hv⟩
 ·by_cases ha:a=I
  ·subst ha
   rw[aJ] at h;obtain rfl:=kr h;exact .inl (aJ ..)
  ·rw[aE ha] at h
   exact(S.own a q h).imp_left λz=>(aE ha).trans z
 ·refine S.sat.hides (.of_keep S.sat.stay k) (λa q h=>(aE (lt _ _ h)).trans h) λa q h=>?_
  by_cases ha:a=I
  ·subst ha
   rw[aJ] at h;obtain rfl:=kr h;exact .inr ⟨z1,z2,ho⟩
  ·rw[aE ha] at h;exact .inl h
theorem mj.kK(S:mj (pinned c I p) l P s m G D):G I=some p:=S.ext _ _ (aJ ..)
theorem St.yg(S:St (pinned c I p) l P s)(hp:nT p)(k:∀ b o,b≠I->s.heap.get? b=some o->s'.heap.get? b=some o)(t:Step s s')(ho:∃ o,s'.heap.get? I=some o/\p' o):St (pinned c I p') l P s':=by
 obtain⟨m,G,D,S⟩:=S;have hI:=S.kK;obtain⟨ob,e,hob⟩:=ho;refine⟨m,cJ G I p',D,λa q h=>?_,(aE (pT S hp hI S.loc)).trans S.loc,?_,λx a h=>?_,λa q h=>?_,?_,I4 S.lv λa v h=>nv S hp hI h,t.g.trans S.gens,t.o.trans S.os⟩
 ·by_cases ha:a=I
  ·subst ha
   rw[show(pinned c a p').F a=some p' from aJ ..] at h;obtain rfl:=kr h;exact aJ ..
  ·rw[show(pinned c I p').F a=c.F a from aE ha] at h
   exact(aE ha).trans (S.ext _ _ ((aE ha).trans h))
 ·obtain⟨Lf,mf,e1,e2⟩:=S.nU
  exact⟨Lf,mf,e1,(aE (pT S hp hI e2)).trans e2⟩
 ·obtain⟨v,hv⟩:=S.oF x a h
  exact⟨v,(aE (nv S hp hI hv)).trans hv⟩
 ·by_cases ha:a=I
  ·subst ha
   rw[aJ] at h;obtain rfl:=kr h;exact .inl (aJ ..)
  ·rw[aE ha] at h
   refine(S.own a q h).imp_left λz=>?_;rw[show(pinned c I p).F a=c.F a from aE ha] at z;exact(aE ha).trans z
 ·refine S.sat.zH (.iA S.sat.stay k (S.sat.hid _ _ hI).b) hI e hob (.inr λoc e' v q=>?_)
  obtain⟨_,o,eo,po⟩:=S.sat.hid _ _ hI;rw[eo] at e';obtain rfl:=kr e';exact hp.nK _ po v q
theorem mj.jT(S:mj (pinned c I p) l P s m G D)(hp:nT p)(hn:c.F I=none):mj c l P s m G D:=by
 refine⟨λa q h=>?_,S.loc,S.nU,S.oF,λa q h=>?_,S.sat,S.lv,S.gens,S.os⟩
 ·have ha:a≠I:=by rintro rfl;rw[hn] at h;cases h
  exact S.ext _ _ ((aE ha).trans h)
 ·by_cases ha:a=I
  ·subst ha
   rw[S.kK] at h;obtain rfl:=kr h;exact .inr (.inl hp.nK)
  ·refine(S.own a q h).imp_left λz=>?_
   rw[show(pinned c I p).F a=c.F a from aE ha] at z;exact z
theorem St.jT(S:St (pinned c I p) l P s)(hp:nT p)(hn:c.F I=none):St c l P s:=by obtain⟨m,G,D,S⟩:=S;exact⟨m,G,D,S.jT hp hn⟩
theorem Exc.jT{ev:Va}(h:Exc (pinned c I p) X ev s)(hp:nT p)(hn:c.F I=none):Exc c X ev s:=by obtain⟨e,P,m,G,D,B,fl,rfl,hfl,S,hX⟩:=h;exact⟨e,P,m,G,D,B,fl,rfl,hfl,⟨S.st.jT hp hn,S.BY,S.base,S.OX,S.HW⟩,hX⟩
theorem Exc.AA{ev:Va}{Lf:Ad}(O:bM c)(hf:c.env.frame=some Lf)(he:c.aZ=c.env){e:Ad}{P:PH}{m:Str->Op Va}{G:HF}{D:Ad->Ad}{B:Heap}(S:B5 c P e (rawInt Lf) s m G D B)(hX:X e P)(hev:ev=.ref e):
  cameBackBy (MM wd) c.A c.env (Exc c X) ev s:=by subst hev;obtain⟨oe,vs,T,oT,ts,h1,h2,h3,h4,h5,h6,h7,h8⟩:=S.BY.tr;unfold cameBackBy;refine af (cg h1 h2 h3 ?_);rw[aa (show ¬ ((Value.ref T==Value.none)=true) from Bool.false_ne_true)];refine lu S.BY λh' F ch=>?_;rw[hf] at F;exact⟨e,P,m,G,D,B,rawInt Lf,rfl,.inr ⟨Lf,by rw[he];exact hf,rfl⟩,S.move O F ch,hX⟩
theorem Exc.loop{ev:Va}(O:bM c)(he:c.aZ=c.env)(h:Exc c X ev s):notedBy (MM wd) c.A c.env (cameBackBy (MM wd) c.A c.env (Exc c X)) ev s:=by
 obtain⟨e,P,m,G,D,B,fl,rfl,hfl,S,hX⟩:=h;obtain⟨Lf,mf,e1,e2⟩:=S.st.nU;have hf:c.env.frame=some Lf:=by rw[<-he];exact e1
 unfold notedBy;rcases hfl with rfl|⟨L',q,rfl⟩
 ·refine rH (outer:=c.outer) (by rw[<-he];exact O.hA) hf (by rw[<-he];exact S.BY) λh' F ch=>?_
  rw[<-he] at F;exact Exc.AA O hf he (S.move O F ch) hX rfl
 ·rw[e1] at q;obtain rfl:=kr q
  exact rG hf S.BY (Exc.AA O hf he S hX rfl)
end
section
section
variable{X:XP}{N:NP}{R:VQ}{n:Nat}{I:Ad}{p p':Obj->Prop}
structure t9(a:Ad)(o:PO)(vs:List Va)(pin:Nat->Obj->Prop):Prop where
 fld:∀ i,nT (pin i)
 item:∀(A:Around) (s:Sh) (I:Ad) (F:HF) (d i:Nat) (v':Va) (Q:Op Va->Sh->Prop) (E:VS),A.handled=none->a≠I->cZ s.heap F d a o->(∃ ob,s.heap.get? I=some ob/\pin i ob)->vs[i]?=some v'->(∀ v h',ab v=v'->(∃ ob,h'.get? I=some ob/\pin (i+1) ob)->Heap.SameBut I s.heap h'->Q (some v) { s with heap:=h' })->wpAny (MM wd) A (pyNext (.ref I)) Q E s
 done:∀(A:Around) (s:Sh) (I:Ad) (F:HF) (d:Nat) (Q:Op Va->Sh->Prop) (E:VS),A.handled=none->a≠I->cZ s.heap F d a o->(∃ ob,s.heap.get? I=some ob/\pin vs.length ob)->(∀ h',Heap.ExtBut I s.heap h'->Q none { s with heap:=h' })->wpAny (MM wd) A (pyNext (.ref I)) Q E s
theorem Sat.drop{base h h':Heap}{F:HF}{a:Ad}(S:Sat base h F P D)(k:Mv base F (·=a) h h')(ha:F a=some p)(hl:∀ oc,h.get? a=some oc->∀ v,oc.data≠.cell (some v)):
  Sat base h' (λb=>if b=a then none else F b) P D:=by
 have off:∀ b q,(if b=a then none else F b)=some q->b≠a/\F b=some q:=λb q h=>by
  by_cases hb:b=a
  ·rw[ai hb] at h;exact bB h
  ·rw[aa hb] at h;exact⟨hb,h⟩
 exact⟨k.stay,λb q hq=>let ⟨x,o,y,z⟩:=S.hid b q (off b q hq).2;.of x (k.hid b q o (off b q hq).2 (off b q hq).1 y z),λb x hb=>⟨(S.rel b x hb).1,(S.yf k (S.fa hb a p ha).symm (λhx=>S.fd a p ha b x hb hx) hb).OT λj b p v e hp=>(aa (S.nK e hp hl)).trans e⟩,S.dle,S.dn,S.di,λb q hq=>S.fp b q (off b q hq).2,λb q hq=>S.fd b q (off b q hq).2⟩
theorem mj.drop{h':Heap}(S:mj (pinned c I p) l P s m G D)(hp:nT p)(hn:c.F I=none)(k:Heap.ExtBut I s.heap h'):St c l P { s with heap:=h' }:=by
 have hI:=S.kK;have aL:=pT S hp hI S.loc;obtain⟨zI,oI,eI,pI⟩:=S.sat.hid _ _ hI;obtain⟨zL,oL,eL,_⟩:=S.sat.hid _ _ S.loc;have U:=S.jT hp hn;have nI:∀ b,b≠I->(if b=I then none else G b)=G b:=λb hb=>aa hb;refine⟨m,λb=>if b=I then none else G b,D,λb q h=>?_,(nI _ aL).trans S.loc,?_,λx b h=>?_,λb q h=>?_,?_,λi v e=>?_,S.gens,S.os⟩
 ·have hb:b≠I:=by rintro rfl;rw[hn] at h;cases h
  exact(nI _ hb).trans (U.ext _ _ h)
 ·obtain⟨Lf,mf,e1,e2⟩:=S.nU
  exact⟨Lf,mf,e1,(nI _ (pT S hp hI e2)).trans e2⟩
 ·obtain⟨v,hv⟩:=S.oF x b h
  exact⟨v,(nI _ (nv S hp hI hv)).trans hv⟩
 ·by_cases hb:b=I
  ·subst hb
   simp at h
  ·replace h:(if b=I then none else G b)=some q:=h
   rw[nI _ hb] at h;exact U.own b q h
 ·refine S.sat.drop (.iA S.sat.stay (λb o hb e=>k b o hb e) zI) hI λoc e v q=>?_
  rw[eI] at e;obtain rfl:=kr e;exact hp.nK _ pI v q
 ·obtain⟨x,kk,hx,b⟩:=S.lv i v e
  refine⟨x,kk,hx,?_⟩;rcases b with b|⟨hc,a,v',ea,ga,q⟩
  ·exact .inl b
  ·exact .inr ⟨hc,a,v',ea,(nI _ (nv S hp hI ga)).trans ga,q⟩
inductive TH(c:Fx)(I a:Ad)(o:PO)(vs:List Va)(pin:Nat->Obj->Prop)(step:Va->Lv->PH->(NP)->Prop)(N:NP)(k:Nat)(s:Sh):Prop
 | mk (i:Nat) (l:Lv) (P:PH) (hk:k=vs.length-i) (hi:i<=vs.length) (S:St (pinned c I (pin i)) l P s) (hP:P a=some o) (h:cM step (λP'=>P' a=some o) (vs.drop i) l P N)
theorem Gv{a:Ad}{o:PO}{vs:List Va}{pin:Nat->Obj->Prop}{target:Expr}{body:List Stmt}{step:Va->Lv->PH->(NP)->Prop}
  (T:t9 a o vs pin) (O:bM c) (he:c.aZ=c.env) (hn:c.F I=none)
  (hb:∀ i v l P s (k:NP),St (pinned c I (pin i)) l P s->step (ab v) l P k->wpAny (MM wd) c.A (letOwnedTupleGo target (.ref I) v) (λ_ aF=>wpAny (MM wd) c.A (assign target c.env v) (λ_ cE=>wpAny (MM wd) c.A (execs body c.env) (Fl (pinned c I (pin i)) k R) (Exc (pinned c I (pin i)) X) cE) (Exc (pinned c I (pin i)) X) aF) (Exc (pinned c I (pin i)) X) s)
  (S:St (pinned c I (pin 0)) l P s) (hP:P a=some o) (h:cM step (λP'=>P' a=some o) vs l P N):
  codeAny (MM wd) c.A (.forLoop target (.ref I) body [] c.env) (λr s'=>match r with|.ok f=>Fl c N R f s'|.error e=>cameBackBy (MM wd) c.A c.env (Exc c X) e s') s:=by
 have ex:∀{i:Nat} {ev:Va} {s:Sh},Exc (pinned c I (pin i)) X ev s->notedBy (MM wd) c.A c.env (cameBackBy (MM wd) c.A c.env (Exc c X)) ev s:=λh=>(h.jT (T.fld _) hn).loop O he;refine codeAny_forLoop_any (TH c I a o vs pin step N) ?_ vs.length ⟨0,l,P,rfl,j5 _,S,hP,h⟩
 rintro k s ⟨i,l,P,rfl,hi,⟨m,G,D,S⟩,hP,h⟩
 have hI:=S.kK;have hne:a≠I:=λq=>by have:=S.sat.fp _ _ hI;rw[<-q,hP] at this;cases this
 obtain⟨_,ob,eo,po⟩:=S.sat.hid _ _ hI;have hr:=(S.sat.rel a o hP).2;rcases Nat.lt_or_ge i vs.length with hlt|hge
 ·have hg:vs[i]?=some vs[i]:=f9 hlt
  rw[List.drop_eq_getElem_cons hlt] at h;refine T.item _ _ _ _ _ i _ _ _ O.hh hne hr ⟨ob,eo,po⟩ hg λv h' hv hp' sb=>?_;have aH:St (pinned c I (pin (i+1))) l P { s with heap:=h' }:=St.yg ⟨m,G,D,S⟩ (T.fld _) (λb o hb e=>(sb.2 b hb).trans e) ⟨gi (t6 sb).symm,rfl,rfl⟩ hp';have h2:step (ab v) l P λl' P'=>P' a=some o/\cM step (λP'=>P' a=some o) (vs.drop (i+1)) l' P' N:=by rw[hv];exact h
  refine ak (hb _ v l P _ _ aH h2) (λ_ aF h₁=>?_) λj j x=>ex x;refine ak h₁ (λ_ cE bA=>?_) λj j x=>ex x;refine ak bA (λf jH bY=>?_) λj j x=>ex x;cases f with
  | next=>obtain⟨l',P',S',hP',h'⟩:=bY;exact⟨vs.length-(i+1),by lia,i+1,l',P',rfl,hlt,S',hP',h'⟩
  | cont=>exact ck bY
  | brk=>exact ck bY
  | ret v=>obtain⟨l',P',S',h'⟩:=bY;exact⟨l',P',S'.jT (T.fld _) hn,h'⟩
 ·have hie:i=vs.length:=Nat.le_antisymm hi hge
  subst hie;rw[List.drop_eq_nil_of_le (f7 _)] at h;exact T.done _ _ _ _ _ _ _ O.hh hne hr ⟨ob,eo,po⟩ λh' xb=>bq ⟨l,P,S.drop (T.fld _) hn xb,h⟩
theorem zK{a:Ad}{o:PO}{vs:List Va}{pin:Nat->Obj->Prop}{target:Expr}{body:List Stmt}{step:Va->Lv->PH->(NP)->Prop}{ob:Obj}
  (T:t9 a o vs pin) (O:bM c) (he:c.aZ=c.env) (hp0:pin 0 ob) (hfr:ob.isFreed=false)
  (hb:∀ I i v l P s (k:NP),bM (pinned c I (pin i))->St (pinned c I (pin i)) l P s->step (ab v) l P k->wpAny (MM wd) c.A (letOwnedTupleGo target (.ref I) v) (λ_ aF=>wpAny (MM wd) c.A (assign target c.env v) (λ_ cE=>wpAny (MM wd) c.A (execs body c.env) (Fl (pinned c I (pin i)) k R) (Exc (pinned c I (pin i)) X) cE) (Exc (pinned c I (pin i)) X) aF) (Exc (pinned c I (pin i)) X) s)
  (S:St c l P s) (hP:P a=some o) (h:cM step (λP'=>P' a=some o) vs l P N):
  codeAny (MM wd) c.A (.forLoop target (.ref s.heap.objs.size) body [] c.env) (λr s'=>match r with|.ok f=>Fl c N R f s'|.error e=>cameBackBy (MM wd) c.A c.env (Exc c X) e s') { s with heap:=s.heap.push ob }:=by have hn:=(O.pin (p:=pin 0) S (f7 _)).2;have kp:gU s.heap (s.heap.push ob):=λb x e=>ek ob e;refine Gv T O he hn (λi v vn aP aF k aH h₁=>hb _ i v vn aP aF k (O.pin S (f7 _)).1 aH h₁) ?_ hP h;exact S.pin (s':={ s with heap:=s.heap.push ob }) kp ⟨by show _<=(s.heap.push ob).objs.size;simp [Heap.push],rfl,rfl⟩ (f7 _) ⟨ob,fj _ hfr,hp0⟩
def rA(a:Ad)(i:Nat):Obj->Prop:=λo=>o.cls=.type "list_iterator"/\o.data=.fields #[.ref a,.int i 0]
def SW(a:Ad)(i:Nat):Obj->Prop:=λo=>o.cls=.type "tuple_iterator"/\o.data=.fields #[.ref a,.int i 0]
theorem vU{a:Ad}{t:Nat × Nat}{vs:List Va}:t9 a (.list t vs) vs (rA a) where
 fld:=λi=>nG λo h=>⟨_,h.2⟩
 item:=λA s I F d i v' Q E hh hne hr ⟨ob,eo,po⟩ hv h=>by obtain⟨us,k,e1,e2⟩:=hr;subst e2;rw[gj,Option.map_eq_some_iff] at hv;obtain⟨u,hu,rfl⟩:=hv;exact wpAny_pyNext_list_item ⟨ob,eo,po⟩ (bK e1) (x:=u) (by simpa using hu) λh' ⟨o',x1,x2⟩ sb=>h u h' rfl ⟨o',x1,x2⟩ sb
 done:=λA s I F d Q E hh hne hr ⟨ob,eo,po⟩ h=>by obtain⟨us,k,e1,e2⟩:=hr;subst e2;exact wpAny_pyNext_list_end hh ⟨ob,eo,po⟩ (bK e1) (by simp) λh' x=>h h' x
theorem yq{a:Ad}{vs:List Va}:t9 a (.tup vs) vs (SW a) where
 fld:=λi=>nG λo h=>⟨_,h.2⟩
 item:=λA s I F d i v' Q E hh hne hr ⟨ob,eo,po⟩ hv h=>by obtain⟨us,k,e1,e2⟩:=hr;subst e2;rw[gj,Option.map_eq_some_iff] at hv;obtain⟨u,hu,rfl⟩:=hv;exact wpAny_pyNext_tuple_item ⟨ob,eo,po⟩ ⟨_,e1,rfl,k,rfl⟩ (x:=u) (by simpa using hu) λh' ⟨o',x1,x2⟩ sb=>h u h' rfl ⟨o',x1,x2⟩ sb
 done:=λA s I F d Q E hh hne hr ⟨ob,eo,po⟩ h=>by obtain⟨us,k,e1,e2⟩:=hr;subst e2;exact wpAny_pyNext_tuple_end hh ⟨ob,eo,po⟩ ⟨_,e1,rfl,k,rfl⟩ (by simp) λh' x=>h h' x
end
end
section
variable{X:XP}{N:NP}{R:VQ}{n:Nat}{I:Ad}{p p':Obj->Prop}
theorem St.keep'(S:St c l P s)(k:gU s.heap s'.heap)(g:s'.gens=s.gens)(o:s'.os=s.os):St c l P s':=by obtain⟨m,G,D,h⟩:=S;exact⟨m,G,D,h.ext,h.loc,h.nU,h.oF,h.own,h.sat.keep (.of_keep h.sat.stay k),h.lv,g.trans h.gens,o.trans h.os⟩
def Kz(n:Nat)(c:Fx)(X:XP)(u:U)(body:List Stmt):Prop:=∀(c':Fx) (l:Lv) (P:PH) (s:Sh) (N:NP) (R:VQ),c'.env=c.env->c'.aZ=c.aZ->c'.A=c.A->bM c'->St c' l P s->wpS n (aK c.env.scope.names) u l P X N R->wpAny (MM wd) c'.A (execs body c'.env) (Fl c' N R) (Exc c' X) s
theorem kZ{it:Expr}(h:isSet it=false)(env:Env):∀ x,foldedSetIterable it env x=pure x:=λx=>by cases it<;>first|rfl|cases h
def RH(a:Ad)(n ep i:Nat):Obj->Prop:=λo=>o.cls=.type "dict_keyiterator"/\o.data=.fields #[.ref a,.int i 0,.int n 0,.int ep 0]
theorem xP{h:Heap}{F:HF}{d a:Ad}{ep:Nat}{kvs:List (Str × Va)}(r:cZ h F d a (.dict (ep,1) kvs)):∃ kvs',h.DictAt (strKind pw wd) a kvs' ep/\kvs'.map kP=kvs:=by obtain⟨⟨o,kvs',e1,⟨es,ep',x1,x2,x3⟩,e2⟩,h3⟩:=r;obtain⟨o',es',y1,y2⟩:=h3 rfl;rw[e1] at y1;obtain rfl:=kr y1;rw[x2] at y2;cases y2;exact⟨kvs',⟨o,es,e1,x1,x2,x3⟩,e2⟩
theorem De{a:Ad}{ep:Nat}{kvs:List (Str × Va)}:t9 a (.dict (ep,1) kvs) (kvs.map λe=>.str e.1 0) (RH a kvs.length ep) where
 fld:=λi=>nG λo h=>⟨_,h.2⟩
 item:=λA s I F d i v' Q E hh hne hr ⟨ob,eo,po⟩ hv h=>by obtain⟨kvs',hat,e2⟩:=xP hr;subst e2;rw[ir,gj,Option.map_eq_some_iff] at hv;obtain⟨u,hu,rfl⟩:=hv;rw[ef] at po;refine wpAny_pyNext_dict_item (knd:=strKind pw wd) (k:=u.1) (v:=u.2) ⟨ob,eo,po⟩ hat hu λkey h' hk ⟨o',x1,x2⟩ sb=>?_;obtain⟨t,q3⟩:=Value.isStrOf_shape hk;subst q3;exact h _ h' rfl ⟨o',x1,by rw[ef];exact x2⟩ sb
 done:=λA s I F d Q E hh hne hr ⟨ob,eo,po⟩ h=>by obtain⟨kvs',hat,e2⟩:=xP hr;subst e2;simp only[ef] at po;exact wpAny_pyNext_dict_end (knd:=strKind pw wd) hh ⟨ob,eo,po⟩ hat (by simp) λh' x=>h h' x
theorem St.fix{a:Ad}{t:Nat × Nat}{kvs:List (Str × Va)}(S:St c l P s)(hP:P a=some (.dict t kvs)):∃ ep kvs',s.heap.DictAt (strKind pw wd) a kvs' ep/\kvs'.map kP=kvs/\St c l (upd P a (.dict (ep,1) kvs)) s:=by obtain⟨m,G,D,S'⟩:=id S;obtain⟨⟨o,kvs',e1,⟨es,ep,x1,x2,x3⟩,e2⟩,_⟩:=(S'.sat.rel a _ hP).2;exact⟨ep,kvs',⟨o,es,e1,x1,x2,x3⟩,e2,S.set (s':=s) (λq q q e=>e) ⟨f7 _,rfl,rfl⟩ hP rfl rfl λF d=>⟨⟨o,kvs',e1,⟨es,ep,x1,x2,x3⟩,e2⟩,λq=>⟨o,es,e1,x2⟩⟩⟩
section
variable(H:dN 30)(HT:sG 30)(O:bM c)(Rm:bP n c.A)(S:St c l P s)(he:c.aZ=c.env)
include H O Rm S he
set_option tactic.hygienic true in
theorem MI{x:Str}{px pos:Pos}{it:Expr}{body:List Stmt}{tb:U}{i:Nat}(hi:idxOf K c.env.scope.names (.Name x px)=some i)(CI:isSet it=false)(hb:Kz n c X tb body)
  (h:wpS n (aK c.env.scope.names) (.loop i (aC K 30 c.env.scope.names it) tb) l P X N R):bN c X N R (.For (.Name x px) it body [] pos) s:=by
 refine wpAny_For (cO H O Rm S h λv aP aF aH h₁=>?_) (kZ CI _);have turn:∀(pin:Nat->Obj->Prop) (I:Ad) (j:Nat) (v:Va) (l:Lv) (P:PH) (s:Sh) (k:NP),bM (pinned c I (pin j))->St (pinned c I (pin j)) l P s->wpS n (aK c.env.scope.names) tb (l.set i (some (ab v))) (kD (aK c.env.scope.names) i P) X k R->wpAny (MM wd) c.A (letOwnedTupleGo (.Name x px) (.ref I) v) (λ_ aF=>wpAny (MM wd) c.A (assign (.Name x px) c.env v) (λ_ cE=>wpAny (MM wd) c.A (execs body c.env) (Fl (pinned c I (pin j)) k R) (Exc (pinned c I (pin j)) X) cE) (Exc (pinned c I (pin j)) X) aF) (Exc (pinned c I (pin j)) X) s:=λpin I j v l P s k O' S' h'=>by refine aq ?_;exact jm (nP (c:=pinned c I (pin j)) S' O' he hi v λs' qM=>hb (pinned c I (pin j)) _ _ _ _ _ rfl rfl rfl O' qM h')
 cases v<;>first|exact ck h₁|skip
 ·rename_i y t
  obtain⟨hy,h₁⟩:=h₁;subst hy;refine wpAny_pyIter_str λo St W h0=>?_;refine codeAny_forLoop_any (λu s=>s={ aF with heap:=aF.heap.push o }) (λu s q=>?_) 0 rfl;subst q;refine(W c.A O.hh).done { aF with heap:=aF.heap.push o } _ _ h0 λh' tk k=>bq ⟨l,aP,aH.keep' (λb ob e=>?_) rfl rfl,h₁⟩;exact k b ob (λq=>by simp at q;rw[q] at e;exact absurd (fy e) (ig _)) (ek _ e)
 ·rename_i a
  replace h₁:(match aP a with
   | some (.dict _ kvs)=>kvs.length<big/\∀ ep,cM (λv l P k=>wpS n (aK c.env.scope.names) tb (l.set i (some v)) (kD (aK c.env.scope.names) i P) X k R) (λP'=>P' a=some (.dict (ep,1) kvs)) (kvs.map λe=>.str e.1 0) l (upd aP a (.dict (ep,1) kvs)) N
   | some o=>(match itemsOf o with
    | some vs=>vs.length<big/\cM (λv l P k=>wpS n (aK c.env.scope.names) tb (l.set i (some v)) (kD (aK c.env.scope.names) i P) X k R) (λP'=>P' a=some o) vs l aP N
    | none=>False)
   | none=>False):=h₁
  cases hP:aP a with
  | none=>rw[hP] at h₁;exact ck h₁
  | some o=>
  rw[hP] at h₁;cases o<;>first|exact ck h₁|skip
  ·rename_i t kvs
   obtain⟨_,h₁⟩:=h₁;have hm:=(iC aH O hP).1;obtain⟨ep,kvs',hat,e2,bU⟩:=aH.fix hP;refine wpAny_pyIter_dict hm hat ?_;refine zK (pin:=RH a kvs.length ep) De O he ⟨rfl,by rw[<-e2,ef];rfl⟩ rfl (turn _) bU (by unfold upd;simp) (h₁ ep)
  ·rename_i t vs
   obtain⟨us,k,e1,e2⟩:=eV aH hP;refine wpAny_pyIter_list (bK e1) ?_;exact zK vU O he ⟨rfl,rfl⟩ rfl (turn _) aH hP h₁.2
  ·rename_i vs
   obtain⟨m,G,D,Ai⟩:=id aH;obtain⟨us,k,e1,e2⟩:=(Ai.sat.rel a _ hP).2;refine wpAny_pyIter_tuple ⟨_,e1,rfl,k,rfl⟩ ?_;exact zK yq O he ⟨rfl,rfl⟩ rfl (turn _) aH hP h₁.2
omit H
include HT
theorem Ka{t:Expr}{body:List Stmt}{tb:U}{pos:Pos}(hb:Kz n c X tb body)
  (h:wpS n (aK c.env.scope.names) (.s9 (aC K 30 c.env.scope.names t) tb) l P X N R):bN c X N R (.While t body [] pos) s:=by
 obtain⟨f,h⟩:=h;refine wpAny_While ?_;have ex:∀{ev:Va} {s:Sh},Exc c X ev s->notedBy (MM wd) c.A c.env (cameBackBy (MM wd) c.A c.env (Exc c X)) ev s:=λh=>h.loop O he;refine codeAny_whileLoop (λk s=>∃ l P,St c l P s/\sE (λl P Q=>bE n (aC K 30 c.env.scope.names t) l P X Q) (λl P k=>wpS n (aK c.env.scope.names) tb l P X k R) k l P N) ?_ f ⟨l,P,S,h⟩
 rintro k s ⟨l,P,S,h⟩
 cases k with
 | zero=>exact ck h
 | succ k=>
  refine ak (HT t c l P s X _ _ n O Rm S h) (λr aF h₁=>?_) λq q x=>ex x;obtain⟨aP,aH,h₁⟩:=h₁;cases r
  ·exact bq ⟨l,aP,aH,h₁⟩
  ·refine ak (hb c l aP aF _ R rfl rfl rfl O aH h₁) (λfl cE bA=>?_) λq q x=>ex x
   cases fl with
   | next=>obtain⟨Bb,gV,bU,bA⟩:=bA;exact⟨k,Nat.lt_succ_self k,Bb,gV,bU,bA⟩
   | cont=>exact ck bA
   | brk=>exact ck bA
   | ret v=>exact bA
end
end
section
structure yu:Prop where
 NI:∀(c:Fx) (l:Lv) (P:PH) (s:Sh) (X:XP) (N:NP) (R:VQ) (n:Nat) (x:Str) (p pos:Pos) (v:Expr) (i:Nat),bM c->bP n c.A->St c l P s->c.aZ=c.env->yW v=true->za c.env.scope.names x p v=true->idxOf K c.env.scope.names (.Name x p)=some i->wpS n (aK c.env.scope.names) (.dR i (aC K 30 c.env.scope.names v)) l P X N R->bN c X N R (.Assign [.Name x p] v pos) s
 iI:∀(c:Fx) (l:Lv) (P:PH) (s:Sh) (X:XP) (N:NP) (R:VQ) (n:Nat) (es:List Expr) (k:Nat) (tp pos:Pos) (v:Expr) (is:List Nat),bM c->bP n c.A->St c l P s->c.aZ=c.env->idxs K c.env.scope.names es=some is->(rS c.env.scope.names es is v).isSome=true->wpS n (aK c.env.scope.names) (.iI is (aC K 30 c.env.scope.names v)) l P X N R->bN c X N R (.Assign [.Tuple es k tp] v pos) s
 mR:∀(c:Fx) (l:Lv) (P:PH) (s:Sh) (X:XP) (N:NP) (R:VQ) (n:Nat) (o1 o2 v1 v2:Expr) (x1 x2:Str) (p1 p2 tp vp pos:Pos) (k k':Nat) (k1 k2:Nat),bM c->bP n c.A->St c l P s->c.aZ=c.env->lX.findIdx? (·==x1)=some k1->lX.findIdx? (·==x2)=some k2->[v1,v2].any isStar=false->wpS n (aK c.env.scope.names) (.mR (aC K 30 c.env.scope.names o1) k1 (aC K 30 c.env.scope.names o2) k2 (aC K 30 c.env.scope.names v1) (aC K 30 c.env.scope.names v2)) l P X N R->bN c X N R (.Assign [.Tuple [.Attribute o1 x1 p1,.Attribute o2 x2 p2] k tp] (.Tuple [v1,v2] k' vp) pos) s
 mT:∀(c:Fx) (l:Lv) (P:PH) (s:Sh) (X:XP) (N:NP) (R:VQ) (n:Nat) (o1 i1 o2 i2 v1 v2:Expr) (p1 p2 tp vp pos:Pos) (k k':Nat),bM c->bP n c.A->St c l P s->c.aZ=c.env->[v1,v2].any isStar=false->wpS n (aK c.env.scope.names) (.mT (aC K 30 c.env.scope.names o1) (aC K 30 c.env.scope.names i1) (aC K 30 c.env.scope.names o2) (aC K 30 c.env.scope.names i2) (aC K 30 c.env.scope.names v1) (aC K 30 c.env.scope.names v2)) l P X N R->bN c X N R (.Assign [.Tuple [.Subscript o1 i1 p1,.Subscript o2 i2 p2] k tp] (.Tuple [v1,v2] k' vp) pos) s
 sr:∀(c:Fx) (l:Lv) (P:PH) (s:Sh) (X:XP) (N:NP) (R:VQ) (n:Nat) (x y g:Str) (px py tp gp cp pos:Pos) (k:Nat) (m:Expr) (body:List Stmt) (tb:U) (i j:Nat),bM c->bP n c.A->St c l P s->c.aZ=c.env->idxOf K c.env.scope.names (.Name x px)=some i->idxOf K c.env.scope.names (.Name y py)=some j->dQ K c.env.scope.names g=.con (.type "enumerate")->Kz n c X tb body->wpS n (aK c.env.scope.names) (.sr i j (aC K 30 c.env.scope.names m) tb) l P X N R->bN c X N R (.For (.Tuple [.Name x px,.Name y py] k tp) (.Call (.Name g gp) [m] [] cp) body [] pos) s
 qp:∀(c:Fx) (l:Lv) (P:PH) (s:Sh) (X:XP) (N:NP) (R:VQ) (n:Nat) (x g:Str) (px gp cp pos:Pos) (m:Expr) (body:List Stmt) (tb:U) (i:Nat),bM c->bP n c.A->St c l P s->c.aZ=c.env->idxOf K c.env.scope.names (.Name x px)=some i->dQ K c.env.scope.names g=.con (.type "range")->Kz n c X tb body->wpS n (aK c.env.scope.names) (.qp i (aC K 30 c.env.scope.names m) tb) l P X N R->bN c X N R (.For (.Name x px) (.Call (.Name g gp) [m] [] cp) body [] pos) s
 Dc:∀(c:Fx) (l:Lv) (P:PH) (s:Sh) (X:XP) (N:NP) (R:VQ) (n:Nat) (body:List Stmt) (hs:List ExceptHandler) (pos:Pos),bM c->bP n c.A->St c l P s->c.aZ=c.env->wpS n (aK c.env.scope.names) (yK K c.env.scope.names body hs) l P X N R->bN c X N R (.Try body hs [] [] pos) s
section
variable{X:XP}{N:NP}{R:VQ}{n:Nat}
theorem M0{cs:List Bool}{a b:U}:wpS n cs (.seq a b) l P X N R=wpS n cs a l P X (λl P=>wpS n cs b l P X N R) R:=rfl
theorem xW(O:bM c):interactive c.env=false:=by unfold interactive;rw[O.knd];rfl
theorem u6{ns:NS}{e:Expr}{i:Nat}(h:idxOf K ns e=some i):∃ x p,e=.Name x p:=aN h λx h _=>⟨x,iW h⟩
theorem oZ{p:T->Bool}{ns:NS}{e m:Expr}(h:nB K p ns e=some m):∃ g gp cp,e=.Call (.Name g gp) [m] [] cp/\p (dQ K ns g)=true:=
 aN h λc hc h=>aN h λg hg h=>aN h λb hb h=>cL h (λq w=>(iW hg).elim λgp hg=>
  have q:=dm q
  ⟨g,gp,c.2.2.2,(qY hc).trans (by rw[hg,k8 hb,w,List.isEmpty_iff.mp q.1]),q.2⟩) bB
theorem Eo{es:List Expr}{q:Expr × Expr}(h:pairOf es=some q):es=[q.1,q.2]:=by
 match es,h with
 | [a,b],h=>obtain rfl:=kr h;rfl
 | [],h=>cases h
 | [_],h=>cases h
 | _::_::_::_,h=>cases h
theorem JH{e:Expr}{q:Expr × Expr}(h:NW e=some q):∃ k p,e=.Tuple [q.1,q.2] k p:=aN h λes h e=>(MS h).elim λk h=>h.elim λp h=>⟨k,p,h.trans (aj (λl=>Expr.Tuple l k p) (Eo e))⟩
section
variable(M:yu)(O:bM c)(Rm:bP n c.A)(S:St c l P s)(he:c.aZ=c.env)
include M O Rm S he
theorem Gs{es:List Expr}{v:Expr}{u:U}{k:Nat}{tp pos:Pos}(hu:rq K c.env.scope.names es v=some u)(h:wpS n (aK c.env.scope.names) u l P X N R):bN c X N R (.Assign [.Tuple es k tp] v pos) s:=by
 refine aN hu λe he1 hu=>aN hu λq hv1 hu=>?_;obtain⟨k',vp,rfl⟩:=JH hv1;rw[Eo he1];rcases Option.or_eq_some_iff.mp hu with hu|⟨-,hu⟩
 ·refine aN hu λa ha hu=>dK hu λb hb hu=>?_
  rw[<-hu] at h;obtain⟨p1,e1⟩:=pU ha;obtain⟨p2,e2⟩:=pU hb;rw[e1,e2];exact cY h λk1 h1 h=>cY h λk2 h2 h=>have⟨hs,h⟩:=r7 h;M.mR _ _ _ _ _ _ _ _ _ _ _ _ _ _ _ _ _ _ _ _ _ _ _ O Rm S he h1 h2 hs h
 ·refine aN hu λa ha hu=>dK hu λb hb hu=>?_
  rw[<-hu] at h;obtain⟨p1,e1⟩:=xY ha;obtain⟨p2,e2⟩:=xY hb;rw[e1,e2];obtain⟨hs,h⟩:=r7 h;exact M.mT _ _ _ _ _ _ _ _ _ _ _ _ _ _ _ _ _ _ _ _ _ O Rm S he (Bool.or_eq_false_iff.mp hs).2 h
set_option tactic.hygienic true in
theorem MD(H:dN 30)(I:pP K){t v:Expr}{pos:Pos}(h:wpS n (aK c.env.scope.names) (yI K c.env.scope.names t v) l P X N R):bN c X N R (.Assign [t] v pos) s:=by
 cases t<;>first|exact ck h|skip
 ·rename_i o x p
  exact cY h λk hk h=>MJ H I O Rm S hk h
 ·rename_i o i p
  exact J8 H O Rm S (r7 h).2
 ·rename_i x p
  refine cY h λi hi h=>?_;obtain⟨hsw,h⟩:=r7 h;cases hl:yW v with
  | false=>exact Qi H O Rm S he hi hl h
  | true=>exact M.NI _ _ _ _ _ _ _ _ _ _ _ _ _ O Rm S he hl (by rw[hl] at hsw;simpa using hsw) hi h
 ·rename_i es k p
  unfold yI at h;dsimp only at h;cases hu:rq K c.env.scope.names es v with
  | some u=>rw[hu] at h;exact Gs M O Rm S he hu h
  | none=>rw[hu] at h;exact cY h λis hi h=>cY h λb hb h=>M.iI _ _ _ _ _ _ _ _ _ _ _ _ _ _ O Rm S he hi (by rw[hb];rfl) h
omit M he in
set_option tactic.hygienic true in
theorem ME(H:dN 30)(I:pP K){t v:Expr}{op:Operator}{pos:Pos}(h:wpS n (aK c.env.scope.names) (DM K c.env.scope.names t op v) l P X N R):bN c X N R (.AugAssign t op v pos) s:=by
 cases op<;>first|exact ck h|skip
 exact cY h λq hq h=>cY h λk hk h=>uu hq▸Qj H I O Rm S hk h
set_option tactic.hygienic true in
theorem J1(H:dN 30){t it:Expr}{body:List Stmt}{tb:U}{pos:Pos}(hb:Kz n c X tb body)(h:wpS n (aK c.env.scope.names) (DN K c.env.scope.names t it tb) l P X N R):bN c X N R (.For t it body [] pos) s:=by
 cases t<;>first|exact ck h|skip
 ·rename_i x p
  refine cY h λi hi h=>?_
  ·unfold AG at h
   cases hg:nB K (yX "range") c.env.scope.names it with
   | some m=>rw[hg] at h;obtain⟨g,gp,cp,rfl,hg'⟩:=oZ hg;exact M.qp _ _ _ _ _ _ _ _ _ _ _ _ _ _ _ _ _ _ O Rm S he hi (tN hg') hb h
   | none=>rw[hg] at h;have⟨hs,h⟩:=r7 h;exact MI H O Rm S he hi hs hb h
 ·rename_i es k tp
  match es,h with
  | [],h=>exact ck h
  | [_],h=>exact ck h
  | _::_::_::_,h=>exact ck h
  | [e1,e2],hh=>clear h;replace hh:wpS n (aK c.env.scope.names) (AE K c.env.scope.names e1 e2 it tb) l P X N R:=hh;refine cY hh λi hi hh=>cY hh λj hj hh=>cY hh λm hg hw=>?_;obtain⟨g,gp,cp,rfl,hg'⟩:=oZ hg;obtain⟨x,px,rfl⟩:=u6 hi;obtain⟨y,py,rfl⟩:=u6 hj;exact M.sr _ _ _ _ _ _ _ _ _ _ _ _ _ _ _ _ _ _ _ _ _ _ _ O Rm S he hi hj (tN hg') hb hw
end
set_option tactic.hygienic true in
theorem Gu(H:dN 30)(HT:sG 30)(I:pP K)(M:yu):∀(f:Nat) (body:List Stmt) (c:Fx) (X:XP) (n:Nat),c.aZ=c.env->bP n c.A->Kz n c X (jK K f c.env.scope.names body) body:=by
 intro f;induction f with
 | zero=>exactλq q q q q q=>λq q q q q q q q q q q h=>ck h
 | succ f ih0=>
  intro body c X n he Rm c' l P s N R e1 e2 e3 O S h;cases body with
  | nil=>exact bq ⟨l,P,S,h⟩
  | cons st r=>
  have ih:∀ b,Kz n c' X (jK K f c'.env.scope.names b) b:=λb=>ih0 b c' X n (by rw[e1,e2];exact he) (by rw[e3];exact Rm);have he':c'.aZ=c'.env:=by rw[e1,e2];exact he
  have Rm':bP n c'.A:=by rw[e3];exact Rm
  rw[<-e1] at h;change wpS n (aK c'.env.scope.names) (.seq _ (jK K f c'.env.scope.names r)) l P X N R at h;rw[M0] at h;refine wpAny_execs_cons (ak (Q:=Fl c' (λl P=>wpS n (aK c'.env.scope.names) (jK K f c'.env.scope.names r) l P X N R) R) (E:=Exc c' X) ?_ (λfl aF h₁=>?_) λq q x=>x);rotate_left
  ·cases fl with
   | next=>obtain⟨vn,aP,aH,h₁⟩:=h₁;exact ih r c' vn aP aF N R rfl rfl rfl O aH h₁
   | ret v=>exact h₁
   | brk=>exact ck h₁
   | cont=>exact ck h₁
  ·show bN c' X _ R st s
   induction st using PySem.Stmt.casesOn<;>first|exact ck h|skip
   ·rename_i v pos
    cases v with
    | some e=>exact Qk H O Rm' S h
    | none=>exact wpAny_Return_none ⟨l,P,S,h⟩
   ·rename_i ts v pos
    exact cY h λt ht h=>k8 ht▸MD M O Rm' S he' H I h
   ·exact ME O Rm' S H I h
   ·rename_i t it body els pos
    cases els with
    | cons _ _=>exact ck h
    | nil=>exact J1 M O Rm' S he' H (ih _) h
   ·rename_i t body els pos
    cases els with
    | cons _ _=>exact ck h
    | nil=>exact Ka HT O Rm' S he' (ih _) h
   ·exact SR H HT O Rm' S h (λP' s' S' h'=>ih _ c' _ _ _ _ _ rfl rfl rfl O S' h') λP' s' S' h'=>ih _ c' _ _ _ _ _ rfl rfl rfl O S' h'
   ·rename_i body hs els fin pos
    cases els with
    | cons _ _=>exact ck h
    | nil=>
     cases fin with
     | cons _ _=>exact ck h
     | nil=>exact M.Dc _ _ _ _ _ _ _ _ _ _ _ O Rm' S he' h
   ·rename_i e pos
    have⟨hl,h⟩:=r7 h;exact Ez H O Rm' S (xW O) hl h
end
end
section
variable{X:XP}{Q:VQ}{N:NP}{R:VQ}{n:Nat}
theorem iU{ns:NS}{e:Expr}{r:List Expr}{is:List Nat}(h:idxs K ns (e::r)=some is):∃ x p i js,e=.Name x p/\idxOf K ns (.Name x p)=some i/\idxs K ns r=some js/\is=i::js:=aN h λi h1 h=>dK h λjs h2 h=>(u6 h1).elim λx w=>w.elim λp w=>⟨x,p,i,js,w,w▸h1,h2,h.symm⟩
theorem DX{ns:NS}{e:Expr}{r:List Expr}{i:Nat}{js:List Nat}(h1:idxOf K ns e=some i)(h2:idxs K ns r=some js):idxs K ns (e::r)=some (i::js):=by show Option.bind _ _=_;rw[h1];exact aj (Option.map (i::·)) h2
theorem gY{ns:NS}{env:Env}:∀{es:List Expr} {is:List Nat},idxs K ns es=some is->assignEach es env=es.map λe=>(false,assign e env):=by
 intro rr;induction rr with
 | nil=>exact @λq q=>rfl
 | cons e r ih=>intro is h;obtain⟨x,p,i,js,rfl,_,h2,_⟩:=iU h;have ih:=ih h2;show(false,assign (.Name x p) env)::assignEach r env=_;rw[ih];rfl
theorem AQ{ns:NS}:∀{es:List Expr} {is:List Nat},idxs K ns es=some is->es.length=is.length:=by
 intro rr;induction rr with
 | nil=>exact @λis h=>by obtain rfl:=kr h;rfl
 | cons e r ih=>intro is h;obtain⟨x,p,i,js,rfl,_,h2,rfl⟩:=iU h;rw[i9,i9,ih h2]
theorem ym(O:bM c)(he:c.aZ=c.env):∀{es:List Expr} {is:List Nat} {us:List Va} {l:Lv} {P:PH} {s:Sh} {Q':Unit->Sh->Prop} {A:Around},idxs K c.env.scope.names es=some is->us.length=is.length->St c l P s->(∀ s',St c (sets is (us.map ab) l) (GB (aK c.env.scope.names) is P) s'->Q' ⟨⟩ s')->wpAny (MM wd) A (assignInOrder (es.map λe=>assign e c.env) us) Q' E s:=by
 intro rr;induction rr with
 | nil=>
  intro is us l P s Q' A hi hl S h;obtain rfl:=kr hi;cases us with
  | nil=>exact aq (h s S)
  | cons u r=>cases hl
 | cons e r ih=>
  intro is us l P s Q' A hi hl S h;obtain⟨x,p,i,js,rfl,h1,h2,rfl⟩:=iU hi;cases us with
  | nil=>cases hl
  | cons u us=>show wpAny (MM wd) A (do holding us (assign (.Name x p) c.env u);assignInOrder (r.map λe=>assign e c.env) us) Q' E s;refine af (ay (jm (nP S O he h1 u λs' S'=>?_)));exact ih h2 (by simpa using hl) S' h
theorem nQ{v:Expr}{es:List Expr}{k:Nat}{tp:Pos}{line:Nat}{env:Env}:swapsWithSole [.Tuple es k tp] v line env=pure false:=by cases v<;>rfl
theorem Bx{env:Env}{es:List Expr}:(es.map λe=>(false,assign e env)).findIdx? (·.1)=none:=by rw[List.findIdx?_eq_none_iff];intro x hx;obtain⟨e,_,rfl⟩:=List.mem_map.mp hx;rfl
set_option tactic.hygienic true in
theorem Ey(H:dN 30)(O:bM c)(he:c.aZ=c.env)(Rm:bP n c.A)(S:St c l P s){es:List Expr}{k:Nat}{tp pos:Pos}{v:Expr}{is:List Nat}(hw:swappedStores [.Tuple es k tp] v c.env=pure none)(hi:idxs K c.env.scope.names es=some is)
  (h:wpS n (aK c.env.scope.names) (.iI is (aC K 30 c.env.scope.names v)) l P X N R):bN c X N R (.Assign [.Tuple es k tp] v pos) s:=by
 refine PyProof.Rows.Assign_Tuple (cO H O Rm S h λu aP aF aH h₁=>?_) nQ hw;cases u<;>first|exact ck h₁|skip
 rename_i a;obtain⟨vs,hP,h₁⟩:=KU (F:=λvs=>vs.length=is.length/\N (sets is vs l) (GB (aK c.env.scope.names) is aP)) h₁;obtain⟨hl,hN⟩:=h₁;obtain⟨m,G,D,Ai⟩:=id aH;obtain⟨us,q,e1,e2⟩:=(Ai.sat.rel a _ hP).2;subst e2;rw[ef] at hl;refine jz O.hh ⟨_,e1,rfl,q,rfl⟩ ?_ ?_ λh' hx=>?_
 ·rw[gY hi,ef,AQ hi];simp [hl]
 ·rw[gY hi];exact Bx
 ·rw[gY hi,ir]
  refine ym (us:=us) O he hi hl (aH.keep' (s':={ aF with heap:=h' }) (λb o e=>hx b o (λz=>by rw[z] at e;exact absurd (fy e) (ig _)) e) rfl rfl) λs' S'=>S'.next hN
end
section
variable{X:XP}{Q:VQ}{N:NP}{R:VQ}{n:Nat}
theorem MN{v:Expr}{ns:NS}{Q:VQ}(h:bE n (aC K 30 ns v) l P X Q):isStar v=false:=by cases v<;>first|rfl|exact ck h
def Sm(T:Va->Va->PH->Prop)(vs:List Va)(P:PH):Prop:=match vs with
 | [a,b]=>T a b P
 | _=>False
theorem DQ(H:dN 30)(O:bM c)(Rm:bP n c.A)(S:St c l P s){v1 v2:Expr}{k:Nat}{vp:Pos}{T:Va->Va->PH->Prop}{Q':VS}(hs:[v1,v2].any isStar=false)
  (h:bE n (aC K 30 c.env.scope.names v1) l P X λa P=>bE n (aC K 30 c.env.scope.names v2) l P X λb P=>T a b P)
  (hk:∀ u1 u2 a P' s',St c l P' s'->T (ab u1) (ab u2) P'->s'.heap.IsTuple a #[u1,u2]->Q' (.ref a) s'):wpAny (MM wd) c.A (eval (.Tuple [v1,v2] k vp) c.env) Q' (Exc c X) s:=by
 refine Tuple_ ?_;rw[iY hs];refine gJ (fN (Q:=Sm T) H O Rm hs S h) λus aP aF aH h₁=>?_
 match us,h₁ with
 | [],h₁=>exact ck h₁
 | [_],h₁=>exact ck h₁
 | _::_::_::_,h₁=>exact ck h₁
 | [u1,u2],h₁=>
  refine ak (JD (Q:=λv P=>∃ a,v=.ref a/\aP a=none/\P=upd aP a (.tup [ab u1,ab u2])) aH ⟨by show(2:Nat)<big;unfold big;lia,λa ha=>⟨a,rfl,ha,rfl⟩⟩) (λv cE bA=>?_) λj j x=>x;obtain⟨gV,bU,a,hv,ha,rfl⟩:=bA;have hv':v=.ref a:=uh hv;subst hv';obtain⟨us',q,e1,e2⟩:=mX bU (a:=a) (vs:=[ab u1,ab u2]) (by unfold upd;simp);rcases us' with _|⟨w1,_|⟨w2,_|⟨w3,rr⟩⟩⟩
  ·simp at e2
  ·simp at e2
  rotate_left
  ·simp at e2
  ·simp only[gn,List.map_nil,List.cons.injEq,and_true] at e2
   refine hk w1 w2 a aP cE (bU.forget λb o hb=>?_) ?_ ⟨_,e1,rfl,q,rfl⟩
   ·have hne:b≠a:=λq=>by rw[q,ha] at hb;cases hb
    unfold upd;simp [hne,hb]
   ·rw[e2.1,e2.2];exact h₁
theorem Al{o:Expr}{x:Str}{p:Pos}{A:Around}{env:Env}{v:Va}{Q':Unit->Sh->Prop}{M:Model}(h:wpAny M A (eval o env) (λov aF=>wpAny M A (setAttr ov x v) Q' E aF) E s):wpAny M A (assign (.Attribute o x p) env v) Q' E s:=by rw[PySem.assign_Attribute];refine af (ay (ak h (λov aF h₁=>af (b9 (af (ay (ak h₁ (λ_ cE bA=>?_) λq q x=>x))))) λq q x=>x));intro Γ p hΓ;rw[Sem.wp_release];exact bA
theorem kI{α:Type}{c:Prop}[Decidable c]{a b:α}(h:b=a):(if c then a else b)=a:=by rw[h,ite_self]
theorem MP{o1 o2:Expr}{x1 x2:Str}{p1 p2 tp vp:Pos}{k k':Nat}{v1 v2:Expr}{env:Env}:swappedStores [.Tuple [.Attribute o1 x1 p1,.Attribute o2 x2 p2] k tp] (.Tuple [v1,v2] k' vp) env=pure none:=kI (kI (ai rfl))
theorem J7(H:dN 30)(I:pP K)(O:bM c)(Rm:bP n c.A)(S:St c l P s){o1 o2 v1 v2:Expr}{x1 x2:Str}{p1 p2 tp vp pos:Pos}{k k' k1 k2:Nat}(h1:lX.findIdx? (·==x1)=some k1)(h2:lX.findIdx? (·==x2)=some k2)(hs:[v1,v2].any isStar=false)
  (h:wpS n (aK c.env.scope.names) (.mR (aC K 30 c.env.scope.names o1) k1 (aC K 30 c.env.scope.names o2) k2 (aC K 30 c.env.scope.names v1) (aC K 30 c.env.scope.names v2)) l P X N R):bN c X N R (.Assign [.Tuple [.Attribute o1 x1 p1,.Attribute o2 x2 p2] k tp] (.Tuple [v1,v2] k' vp) pos) s:=by
 refine PyProof.Rows.Assign_Tuple (DQ H O Rm S hs h λu1 u2 a aP aF aH h₁ ht=>?_) nQ MP;refine jz O.hh ht rfl rfl λh' hx=>?_;have bU:St c l aP { aF with heap:=h' }:=aH.keep' (λb o e=>hx b o (λz=>by rw[z] at e;exact absurd (fy e) (ig _)) e) rfl rfl;show wpAny (MM wd) c.A (do holding [u2] (assign (.Attribute o1 x1 p1) c.env u1);assignInOrder [assign (.Attribute o2 x2 p2) c.env] [u2]) _ _ _;refine af (ay (Al (cO H O Rm bU h₁ λov1 qR jH dX bY=>jR (N:=λP=>bE n (aC K 30 c.env.scope.names o2) l P X λu P=>(match u with
   | .ref b=>wk b k2 (ab u2) P (N l)
   | _=>False)) I dX O (qu h1) bY λOe zO lM sN=>?_)))
 show wpAny (MM wd) c.A (do holding [] (assign (.Attribute o2 x2 p2) c.env u2);assignInOrder [] []) _ _ _;refine af (ay (Al (cO H O Rm lM sN λov2 TA GH Of OU=>jR (N:=N l) I Of O (qu h2) OU λTF SV EJ OV=>aq (EJ.next OV))))
end
section
variable{X:XP}{Q:VQ}{N:NP}{R:VQ}{n:Nat}
theorem Dy{o i:Expr}{p:Pos}{A:Around}{env:Env}{v:Va}{Q':Unit->Sh->Prop}{M:Model}(h:wpAny M A (eval o env) (λov aF=>wpAny M A (eval i env) (λiv cE=>wpAny M A (setItem ov iv v) Q' E cE) E aF) E s):wpAny M A (assign (.Subscript o i p) env v) Q' E s:=by rw[PySem.assign_Subscript];refine af (ay (ak h (λov aF h₁=>af (ay (ak h₁ (λiv cE bA=>af (b9 (af (ay (ak bA (λ_ jH bY=>?_) λq q x=>x))))) λq q x=>x))) λq q x=>x));intro Γ p hΓ;rw[Sem.wp_release];exact bY
theorem Qm{o1 o2 i1 i2:Expr}{p1 p2 tp vp:Pos}{k k':Nat}{v1 v2:Expr}{env:Env}:swappedStores [.Tuple [.Subscript o1 i1 p1,.Subscript o2 i2 p2] k tp] (.Tuple [v1,v2] k' vp) env=pure none:=kI (kI (ai rfl))
theorem Gz(H:dN 30)(O:bM c)(Rm:bP n c.A)(S:St c l P s){o1 o2 i1 i2 v1 v2:Expr}{p1 p2 tp vp pos:Pos}{k k':Nat}(hs:[v1,v2].any isStar=false)
  (h:wpS n (aK c.env.scope.names) (.mT (aC K 30 c.env.scope.names o1) (aC K 30 c.env.scope.names i1) (aC K 30 c.env.scope.names o2) (aC K 30 c.env.scope.names i2) (aC K 30 c.env.scope.names v1) (aC K 30 c.env.scope.names v2)) l P X N R):bN c X N R (.Assign [.Tuple [.Subscript o1 i1 p1,.Subscript o2 i2 p2] k tp] (.Tuple [v1,v2] k' vp) pos) s:=by refine PyProof.Rows.Assign_Tuple (DQ H O Rm S hs h λu1 u2 a aP aF aH h₁ ht=>?_) nQ Qm;refine jz O.hh ht rfl rfl λh' hx=>?_;have bU:St c l aP { aF with heap:=h' }:=aH.keep' (λb o e=>hx b o (λz=>by rw[z] at e;exact absurd (fy e) (ig _)) e) rfl rfl;show wpAny (MM wd) c.A (do holding [u2] (assign (.Subscript o1 i1 p1) c.env u1);assignInOrder [assign (.Subscript o2 i2 p2) c.env] [u2]) _ _ _;refine af (ay (Dy (cO H O Rm bU h₁ λov1 qR jH dX bY=>cO H O Rm dX bY λiv1 UR Vs QS RA=>pB QS O RA λOe zO lM sN=>?_)));show wpAny (MM wd) c.A (do holding [] (assign (.Subscript o2 i2 p2) c.env u2);assignInOrder [] []) _ _ _;refine af (ay (Dy (cO H O Rm lM sN λov2 TA GH Of OU=>cO H O Rm Of OU λiv2 US Vt QT RB=>pB QT O RB λTF SV EJ OV=>aq (EJ.next OV))))
end
section
variable{X X':XP}{Q Q':VQ}{n n':Nat}{f:Ad}{vs:List Va}
theorem bP.mono{A:Around}(R:bP n' A)(h:n<=n'):bP n A:=by obtain⟨h1,h2⟩:=R;exact⟨by lia,by lia⟩
theorem Calls.mono(h:Calls n f vs P X Q)(hn:n<=n')(hX:∀ e P,X e P->X' e P)(hQ:∀ v P,Q v P->Q' v P):Calls n' f vs P X' Q':=by
 intro c l s args O Rm S hv;refine codeAny_mono (h c l s args O (Rm.mono hn) S hv) λr s' hr=>?_;rcases r with e|fl
 ·exact Exc.mono hr hX
 ·cases fl with
  | ret v=>obtain⟨P',S',q⟩:=hr;exact⟨P',S',hQ _ _ q⟩
  | next=>exact ck hr
  | brk=>exact ck hr
  | cont=>exact ck hr
theorem Gi{i:Nat}{v:Va}:∀{is:List Nat} {vs:List Va} {l:Lv},vs.length=is.length->sets (is++[i]) (vs++[v]) l=(sets is vs l).set i (some v):=by
 intro is;induction is with
 | nil=>intro vs l h;obtain rfl:=kj h;rfl
 | cons j is ih=>intro vs l h;obtain⟨w,ws,rfl⟩:=jw h;exact ih (Nat.succ.inj h)
theorem JV{i:Nat}{v:Va}:∀{is:List Nat} {vs:List Va} {l:Lv},i∉is->sets is vs (l.set i (some v))=(sets is vs l).set i (some v):=by
 intro is;induction is with
 | nil=>intro vs l h;rfl
 | cons j is ih=>
  intro vs l h;rcases vs with _|⟨u,vs⟩
  ·rfl
  ·exact(aj (sets is vs) (List.set_comm _ _ λq:i=j=>h (q▸.head _))).trans (ih λq=>h (.tail _ q))
theorem JW:∀{is:List Nat} {vs:List Va} {l:Lv},vs.length=is.length->is.Nodup->sets is.reverse vs.reverse l=sets is vs l:=by
 intro is;induction is with
 | nil=>intro vs l h _;obtain rfl:=kj h;rfl
 | cons i is ih=>intro vs l h nd;obtain⟨w,ws,rfl⟩:=jw h;have n:=dj nd;rw[List.reverse_cons,List.reverse_cons,Gi (by rw[gh,gh];exact Nat.succ.inj h),ih (Nat.succ.inj h) n.2];exact(JV n.1).symm
end
section
variable{X:XP}{Q:VQ}{N:NP}{R:VQ}{n:Nat}
def Vj(o:Op PO)(F:List Va->Prop):Prop:=match o with
 | some (.tup vs)=>F vs
 | _=>False
theorem L7{o:Op PO}{F:List Va->Prop}(h:Vj o F):∃ vs,o=some (.tup vs)/\F vs:=by
 obtain _|o:=o
 ·exact ck h
 ·cases o<;>first|exact ck h|exact⟨_,rfl,h⟩
abbrev LW(c:Fx)(is:List Nat)(xs:List Str):Prop:=is.map (λi=>c.env.scope.names[i]?)=xs.map λx=>some (x,NameKind.local)
theorem GC:∀{is:List Nat} {xs:List Str} {P:PH},LW c is xs->GB (aK c.env.scope.names) is P=P:=by
 intro is;induction is with
 | nil=>exactλ_=>rfl
 | cons i is ih=>
  intro xs P h;cases xs with
  | nil=>cases h
  | cons x xs=>have h:=List.cons.inj h;show GB _ is (kD _ i P)=P;rw[rL h.1];exact ih h.2
theorem Kc{Q:Unit->Sh->Prop}(O:bM c):∀{xs:List Str} {is:List Nat} {ws:List Va} {l:Lv} {s:Sh},LW c is xs->ws.length=xs.length->St c l P s->(∀ s',St c (sets is (ws.map ab) l) P s'->Q ⟨⟩ s')->wpAny (MM wd) c.A (PySem.assignInOrder (xs.map λn=>bindName c.env n) ws) Q E s:=by
 intro xs;induction xs with
 | nil=>intro is ws l s hn hl S h;obtain rfl:=kj hl;obtain rfl:=List.map_eq_nil_iff.mp hn;exact aq (h _ S)
 | cons x xs ih=>intro is ws l s hn hl S h;obtain⟨i,is,rfl,h1,h2⟩:=List.map_eq_cons_iff.mp hn;obtain⟨w,ws,rfl⟩:=jw hl;show wpAny (MM wd) c.A (do holding ws (bindName c.env x w);PySem.assignInOrder (xs.map λn=>bindName c.env n) ws) _ _ _;exact af (ay (PyProof.Rows.bindName_ (S.store O h1 w λjH dX=>ih h2 (Nat.succ.inj hl) dX h)))
theorem Gy(H:dN 30)(O:bM c)(Rm:bP n c.A)(S:St c l P s){es:List Expr}{xs:List Str}{is:List Nat}{k:Nat}{tp pos:Pos}{v:Expr}(hw:swappedStores [.Tuple es k tp] v c.env=pure (some xs))
  (hn:LW c is xs) (hd:is.Nodup)
  (h:wpS n (aK c.env.scope.names) (.iI is (aC K 30 c.env.scope.names v)) l P X N R):bN c X N R (.Assign [.Tuple es k tp] v pos) s:=by
 refine PyProof.Rows.Assign_Tuple_swapped (names:=xs) (cO H O Rm S h λu aP aF aH h₁=>?_) nQ hw;obtain⟨a,rfl,h₁⟩:=cD (F:=λa=>Vj (aP a) λvs=>vs.length=is.length/\N (sets is vs l) (GB (aK c.env.scope.names) is aP)) h₁;obtain⟨_,hP,hl,hN⟩:=L7 h₁;obtain⟨us,z,e1,rfl⟩:=mX aH hP;have l2:is.length=xs.length:=by simpa using aj List.length hn
 rw[ef] at hl;rw[GC hn] at hN;rw[l2.symm.trans hl.symm];refine PyProof.Rows.unpackItems_tuple (items:=us.toArray) O.hh ⟨_,e1,rfl,z,rfl⟩ λh' hx'=>?_;refine Kc O (is:=is.reverse) (xs:=xs.reverse) (by rw[LW,jl,jl,hn]) (by rw[gh,gh,<-l2,hl]) (aH.keep' (s':={ aF with heap:=h' }) (λb o e=>hx' b o (λz=>by rw[z] at e;exact absurd (fy e) (ig _)) e) rfl rfl) λs' S'=>S'.next ?_;rw[jl,JW (by rw[ef];exact hl) hd];exact hN
end
section
variable{X:XP}{Q:VQ}{N:NP}{R:VQ}{n:Nat}
noncomputable abbrev oK(env:Env)(es:List Expr)(line:Nat):List Str:=es.filterMap λ
  | .Name id pos=>if env.kindOf id==some .local&&pos.line==line then some id else none
  | _=>none
theorem Be{env:Env}{x:Str}{p:Pos}{r:List Expr}{line:Nat}:oK env (.Name x p::r) line=if (env.kindOf x==some .local&&p.line==line)=true then x::oK env r line else oK env r line:=by
 by_cases q:(env.kindOf x==some .local&&p.line==line)=true
 ·rw[ai q];exact List.filterMap_cons_some (ai q)
 ·rw[aa q];exact List.filterMap_cons_none (aa q)
theorem Jo{env:Env}(nd:(env.scope.names.map (·.1)).Nodup){line:Nat}:∀{es:List Expr} {is:List Nat},idxs K env.scope.names es=some is->is.any (λi=>D3 env.scope.names[i]?)=true->(oK env es line).length<es.length:=by
 intro rr;induction rr with
 | nil=>exact @λis h hc=>by rw[<-kr h] at hc;exact gR hc
 | cons e r ih=>
  intro is h hc;obtain⟨x,p,i,js,rfl,h1,h2,rfl⟩:=iU h;have le:(oK env r line).length<=r.length:=List.length_filterMap_le _ _;rw[Be];rcases u7 h1 with q|q
  ·rw[jo,q] at hc
   have ih:=ih h2 hc;by_cases w:(env.kindOf x==some .local&&p.line==line)=true
   ·rw[ai w];exact Nat.succ_lt_succ ih
   ·rw[aa w];exact Nat.lt_succ_of_lt ih
  ·have hk:env.kindOf x=some .cell:=aT nd q
   rw[aa (by rw[hk];exact Bool.false_ne_true)];exact j6 le
theorem LX{env:Env}(nd:(env.scope.names.map (·.1)).Nodup){line:Nat}:∀{es:List Expr} {is:List Nat},idxs K env.scope.names es=some is->is.all (λi=>Fd env.scope.names[i]?)=true->es.all (λe=>mO e==line)=true->∃ xs:List Str,oK env es line=xs/\xs.length=es.length/\is.map (λi=>env.scope.names[i]?)=xs.map λx=>some (x,.local):=by
 intro rr;induction rr with
 | nil=>exact @λis h hc hl=>⟨[],rfl,rfl,by rw[<-kr h];rfl⟩
 | cons e r ih=>
  intro is h hc hl;obtain⟨x,p,i,js,rfl,h1,h2,rfl⟩:=iU h;rw[List.all_cons,e9] at hc hl;obtain⟨xs,e1,e2,e3⟩:=ih h2 hc.2 hl.2
  have q:env.scope.names[i]?=some (x,.local):=by
   rcases u7 h1 with q|q
   ·exact q
   ·have hc:=hc.1;rw[q] at hc;exact gR hc
  have hk:env.kindOf x=some .local:=aT nd q;refine⟨x::xs,?_,by simp [e2],by simp [q,e3]⟩;have hp:(p.line==line)=true:=hl.1;rw[Be,ai (by rw[hk,hp];rfl),e1]
theorem PG{v:Expr}{es:List Expr}{k:Nat}{tp:Pos}{env:Env}(h:∀ vs k' p,v≠.Tuple vs k' p):swappedStores [.Tuple es k tp] v env=pure none:=by unfold swappedStores;cases v<;>first|rfl|exact absurd rfl (h _ _ _)
theorem Fy{es:List Expr}{is:List Nat}{ns:NS}(h:idxs K ns es=some is):(es.head?.map (·.pos.line)).getD 0=(es.head?.map mO).getD 0:=by
 cases es with
 | nil=>rfl
 | cons e r=>obtain⟨x,p,i,js,rfl,_⟩:=iU h;rfl
theorem MQ{env:Env}(nd:(env.scope.names.map (·.1)).Nodup){es vs:List Expr}{k k':Nat}{tp vp:Pos}{is:List Nat}(hi:idxs K env.scope.names es=some is)(hc:is.any (λi=>D3 env.scope.names[i]?)=true):
  swappedStores [.Tuple es k tp] (.Tuple vs k' vp) env=pure none:=kI (kI (ai (Bool.or_eq_true_iff.mpr (.inl (bne_iff_ne.mpr (gq (Jo nd hi hc)))))))
theorem Lm{l:List Str}(h:l.Nodup):l.eraseDups=l:=by
 induction l with
 | nil=>rfl
 | cons a l ih=>have n:=dj h;rw[List.eraseDups_cons,List.filter_eq_self.mpr λb hb=>by simpa using λq:b=a=>n.1 (q▸hb),ih n.2]
theorem Sa{nms:NS}(nd:(nms.map (·.1)).Nodup):∀{is:List Nat} {xs:List Str},is.map (λi=>nms[i]?)=xs.map (λx=>some (x,NameKind.local))->is.Nodup->xs.Nodup:=by
 intro is;induction is with
 | nil=>intro xs h hd;rw[List.map_eq_nil_iff.mp h.symm];exact .nil
 | cons i is ih=>
  intro xs h hd;cases xs with
  | nil=>exact .nil
  | cons x xs=>have h:=List.cons.inj h;have d:=dj hd;refine dh ⟨λq=>?_,ih h.2 d.2⟩;have m:some (x,NameKind.local)∈is.map λi=>nms[i]?:=h.2▸jx (f:=λx=>some (x,NameKind.local)) q;obtain⟨j,hj,e⟩:=List.mem_map.mp m;exact d.1 (qf nd h.1 e▸hj)
theorem Hj(vs:List Expr):vs.any isStar=vs.any λ|.Starred ..=>true|_=>false:=aj _ (funext λe=>by cases e<;>rfl)
theorem MR{env:Env}(nd:(env.scope.names.map (·.1)).Nodup)(hk:env.scope.kind=.function){es vs:List Expr}{k k':Nat}{tp vp:Pos}{is:List Nat}(hi:idxs K env.scope.names es=some is)
  (h0:vs.length=es.length) (hs:vs.any isStar=false) (h1:es.length=2\/es.length=3) (hd:is.Nodup) (hc:is.all (λi=>Fd env.scope.names[i]?)=true)
  (hl:es.all (λe=>mO e==(es.head?.map mO).getD 0)=true) (hf:vs.all (foldedForSure 8)=false) (ha:vs.all (constantsAlone 8)=false):
  ∃ xs:List Str,swappedStores [.Tuple es k tp] (.Tuple vs k' vp) env=pure (some xs)/\xs.length=es.length/\is.map (λi=>env.scope.names[i]?)=xs.map λx=>some (x,.local):=by
 obtain⟨xs,e1,e2,e3⟩:=LX nd hi hc hl;have hb:env.blockKind=.function:=by unfold Env.blockKind;rw[hk];rfl
 have hx:xs.eraseDups.length=xs.length:=aj _ (Lm (Sa nd e3 hd));have e:oK env es ((es.head?.map (·.pos.line)).getD 0)=xs:=(aj _ (Fy hi)).trans e1;refine⟨xs,(aa ?_).trans ((aa λq=>absurd (hs.symm.trans ((Hj vs).trans q)) ()).trans ((aa λq=>?_).trans ((aa λq=>absurd (hf.symm.trans q) ()).trans ((aa λq=>absurd (ha.symm.trans q) ()).trans (aj (λz=>pure (some z)) e))))),e2,e3⟩
 ·rw[hb,h0];rcases h1 with h1|h1<;>rw[h1]<;>exact Bool.false_ne_true
 ·have q:((oK env es ((es.head?.map (·.pos.line)).getD 0)).length !=es.length||(oK env es ((es.head?.map (·.pos.line)).getD 0)).eraseDups.length !=(oK env es ((es.head?.map (·.pos.line)).getD 0)).length)=true:=q
  rw[e,hx,e2] at q;exact(Bool.or_eq_true_iff.mp q).elim (λq=>bne_iff_ne.mp q rfl) λq=>bne_iff_ne.mp q rfl
theorem BB{ns:NS}{es vs:List Expr}{is:List Nat}{k':Nat}{vp:Pos}(h:rS ns es is (.Tuple vs k' vp)=some true):vs.length=es.length/\vs.any isStar=false/\(es.length=2\/es.length=3)/\is.Nodup/\is.all (λi=>Fd ns[i]?)=true/\es.all (λe=>mO e==(es.head?.map mO).getD 0)=true/\vs.all (foldedForSure 8)=false/\vs.all (constantsAlone 8)=false:=
 have h:=wX h
 cL h.2 (λ_ e=>gR e) λh'=>(λh2=>by have h1:=h.1;simp only[e9,az,i6,j4,decide_eq_true_eq] at h1 h2;exact⟨h1.1,h1.2,h2.1.1.1.1.1,h2.1.1.1.1.2,h2.1.1.1.2,h2.1.1.2,h2.1.2,h2.2⟩) (wX h').1
theorem zQ{ns:NS}{es vs:List Expr}{is:List Nat}{k':Nat}{vp:Pos}(h:rS ns es is (.Tuple vs k' vp)=some false):is.any (λi=>D3 ns[i]?)=true:=cL (wX h).2 (λq _=>q) λh'=>lH (kr (wX h').2)
theorem C5(H:dN 30)(O:bM c)(he:c.aZ=c.env)(Rm:bP n c.A)(S:St c l P s){es:List Expr}{k:Nat}{tp pos:Pos}{v:Expr}{is:List Nat}(hi:idxs K c.env.scope.names es=some is)(hb:(rS c.env.scope.names es is v).isSome=true)
  (h:wpS n (aK c.env.scope.names) (.iI is (aC K 30 c.env.scope.names v)) l P X N R):bN c X N R (.Assign [.Tuple es k tp] v pos) s:=by
 by_cases ht:∃ vs k' p,v=.Tuple vs k' p
 ·obtain⟨vs,k',vp,rfl⟩:=ht
  cases q:rS c.env.scope.names es is (.Tuple vs k' vp) with
  | none=>rw[q] at hb;cases hb
  | some b=>
   cases b with
   | false=>exact Ey H O he Rm S (MQ O.nd hi (zQ q)) hi h
   | true=>obtain⟨h0,hs,h1,hd,hc,hl,hf,ha⟩:=BB q;obtain⟨xs,e1,e2,e3⟩:=MR (k:=k) (k':=k') (tp:=tp) (vp:=vp) O.nd O.knd hi h0 hs h1 hd hc hl hf ha;exact Gy H O Rm S e1 e3 hd h
 ·exact Ey H O he Rm S (PG λvs k' p q=>ht ⟨vs,k',p,q⟩) hi h
end
section
section
variable{X:XP}{Q:VQ}{N:NP}{R:VQ}{n:Nat}{I:Ad}{p p':Obj->Prop}
theorem AK(H:dN 30)(O:bM c)(Rm:bP n c.A)(S:St c l P s){g:Str}{T:String}{a:Expr}{gp cp:Pos}{R':VQ}{Q':VS}(hv:dQ K c.env.scope.names g=.con (.type T))
  (h:bE n (aC K 30 c.env.scope.names a) l P X R') (k:∀ v P' s',St c l P' s'->R' (ab v) P'->wpAny (MM wd) c.A (call (.type T) [v]) Q' (Exc c X) s'):
  wpAny (MM wd) c.A (eval (.Call (.Name g gp) [a] [] cp) c.env) Q' (Exc c X) s:=by
 have hs:[a].any isStar=false:=by rw[jo,List.any_nil,Bool.or_false];exact MN h
 refine Call_ (bG (mV (n:=0) (X:=X) (Q:=λu P'=>u=.type T/\P'=P) S O (by rw[hv];exact⟨rfl,rfl⟩)) λf aP aF aH h₁=>?_);obtain⟨e,rfl⟩:=h₁;have:=tw e;subst this;refine cB (G:=λq=>True) hs tO (g8 (bG (H a c l aP aF X _ n O Rm aH h) λv aP aF aH h₁=>?_));exact g7 ⟨trivial,k v aP aF aH h₁⟩
def pG(k i:Nat):Obj->Prop:=λo=>o={ cls:=.type "range_iterator",dict:=none,data:=.fields #[rawInt (i:Int),rawInt ((k:Int)-(i:Int)),rawInt 1],slots:=#[] }
theorem nM{k i:Nat}:nT (pG k i):=nG λo h=>⟨_,aj Obj.data h⟩
inductive TG(c:Fx)(I:Ad)(k:Nat)(step:Nat->Lv->PH->(NP)->Prop)(N:NP)(r:Nat)(s:Sh):Prop
 | mk (i:Nat) (l:Lv) (P:PH) (hr:r=k-i) (hi:i<=k) (S:St (pinned c I (pG k i)) l P s) (h:x7 step i (k-i) l P N)
theorem Bu{k:Nat}{target:Expr}{body:List Stmt}{step:Nat->Lv->PH->(NP)->Prop}(O:bM c)(he:c.aZ=c.env)(hn:c.F I=none)
  (hb:∀(i:Nat) t l P s (k':NP),St (pinned c I (pG k (i+1))) l P s->step i l P k'->wpAny (MM wd) c.A (letOwnedTupleGo target (.ref I) (.int (i:Int) t)) (λ_ aF=>wpAny (MM wd) c.A (assign target c.env (.int (i:Int) t)) (λ_ cE=>wpAny (MM wd) c.A (execs body c.env) (Fl (pinned c I (pG k (i+1))) k' R) (Exc (pinned c I (pG k (i+1))) X) cE) (Exc (pinned c I (pG k (i+1))) X) aF) (Exc (pinned c I (pG k (i+1))) X) s)
  (S:St (pinned c I (pG k 0)) l P s) (h:x7 step 0 k l P N):
  codeAny (MM wd) c.A (.forLoop target (.ref I) body [] c.env) (λr s'=>match r with|.ok f=>Fl c N R f s'|.error e=>cameBackBy (MM wd) c.A c.env (Exc c X) e s') s:=by
 have ex:∀{i:Nat} {ev:Va} {s:Sh},Exc (pinned c I (pG k i)) X ev s->notedBy (MM wd) c.A c.env (cameBackBy (MM wd) c.A c.env (Exc c X)) ev s:=λh=>(h.jT nM hn).loop O he;refine codeAny_forLoop_any (TG c I k step N) ?_ k ⟨0,l,P,rfl,j5 _,S,h⟩
 rintro r s ⟨i,l,P,rfl,hi,⟨m,G,D,S⟩,h⟩
 have hI:=S.kK;obtain⟨_,ob,eo,po⟩:=S.sat.hid _ _ hI;have hit:IsRangeIter s.heap I (i:Int) ((k:Int)-(i:Int)) 1:=by rw[show ob=_ from po] at eo;exact eo
 rcases Nat.lt_or_ge i k with hlt|hge
 ·rw[show k-i=(k-(i+1))+1 by lia] at h
  refine wpAny_pyNext_range_item hit (by lia) λh' hi' sb=>?_
  have aH:St (pinned c I (pG k (i+1))) l P { s with heap:=h',toks:=s.toks+1 }:=by
   refine St.yg ⟨m,G,D,S⟩ nM (λb o hb e=>(sb.2 b hb).trans e) ⟨gi (t6 sb).symm,rfl,rfl⟩ ⟨_,hi',?_⟩;show(_:Obj)=_;have e1:((i:Int)+1)=((i+1:Nat):Int):=by lia
   have e2:((k:Int)-(i:Int)-1)=((k:Int)-((i+1:Nat):Int)):=by lia
   rw[e1,e2]
  refine ak (hb i _ l P _ _ aH h) (λ_ aF h₁=>?_) λq q x=>ex x;refine ak h₁ (λ_ cE bA=>?_) λq q x=>ex x;refine ak bA (λf jH bY=>?_) λq q x=>ex x;cases f with
  | next=>obtain⟨l',P',S',h'⟩:=bY;exact⟨k-(i+1),by lia,i+1,l',P',rfl,hlt,S',h'⟩
  | cont=>exact ck bY
  | brk=>exact ck bY
  | ret v=>obtain⟨l',P',S',h'⟩:=bY;exact⟨l',P',S'.jT nM hn,h'⟩
 ·have hie:i=k:=Nat.le_antisymm hi hge
  subst hie;rw[Nat.sub_self] at h;exact wpAny_pyNext_range_end O.hh hit (by lia) λh' xb=>bq ⟨l,P,S.drop nM hn xb,h⟩
set_option tactic.hygienic true in
theorem J6(H:dN 30)(O:bM c)(Rm:bP n c.A)(S:St c l P s)(he:c.aZ=c.env){x g:Str}{px gp cp pos:Pos}{m:Expr}{body:List Stmt}{tb:U}{i:Nat}(hi:idxOf K c.env.scope.names (.Name x px)=some i)(hg:dQ K c.env.scope.names g=.con (.type "range"))(hb:Kz n c X tb body)
  (h:wpS n (aK c.env.scope.names) (.qp i (aC K 30 c.env.scope.names m) tb) l P X N R):bN c X N R (.For (.Name x px) (.Call (.Name g gp) [m] [] cp) body [] pos) s:=by
 refine wpAny_For (AK H O Rm S hg h λv aP aF aH h₁=>?_) (kZ rfl _);cases v<;>first|exact ck h₁|skip
 rename_i k t;replace h₁:(0<=k/\k<big)/\x7 (λq l P k'=>wpS n (aK c.env.scope.names) tb (l.set i (some (.int q 0))) (kD (aK c.env.scope.names) i P) X k' R) 0 k.toNat l aP N:=h₁;have h0:=h₁.1.1;have h1:=h₁.1.2;replace h₁:=h₁.2;unfold big at h1;refine call_range_1 (wpAny_pyIter_range (IsRange.new ..) (small_one () () (by lia) (by lia)) ?_);have hsz:Builtin.Range.rangeSize 0 k 1=(k.toNat:Int):=by rw[rangeSize_one];split<;>lia
 generalize hob:({ cls:=.type "range",data:=.fields #[.int 0 aF.toks,.int k t,.int 1 (aF.toks+1)] }:Obj)=rob;have bU:St c l aP { aF with heap:=aF.heap.push rob,toks:=aF.toks+1+1 }:=aH.keep' (λb o e=>ek _ e) rfl rfl;have hn:=(O.pin (p:=pG k.toNat 0) bU (f7 _)).2;refine Bu (step:=λq l P k'=>wpS n (aK c.env.scope.names) tb (l.set i (some (.int q 0))) (kD (aK c.env.scope.names) i P) X k' R) O he hn (λq t vn UQ Vr k' S' h'=>aq ?_) (bU.pin (p:=pG k.toNat 0) (λb o e=>ek _ e) ⟨by simp [Heap.push],rfl,rfl⟩ (f7 _) ⟨_,fj _ rfl,?_⟩) h₁
 ·have O':=(O.pin (p:=pG k.toNat (q+1)) bU (f7 _)).1
  exact jm (nP (c:=pinned c _ (pG k.toNat (q+1))) S' O' he hi (.int (q:Int) t) λs' qM=>hb (pinned c _ (pG k.toNat (q+1))) _ _ _ _ _ rfl rfl rfl O' qM h')
 ·show(_:Obj)=_
  rw[hsz];simp
theorem jQ{I J:Ad}{p q:Obj->Prop}(h:I≠J):pinned (pinned c I p) J q=pinned (pinned c J q) I p:=by
 have e:cJ (cJ c.F I p) J q=cJ (cJ c.F J q) I p:=by
  funext b;unfold cJ;by_cases h1:b=I<;>by_cases h2:b=J
  ·rw[h1] at h2;exact absurd h2 h
  ·simp [h1,h]
  ·simp [h2,gz h]
  ·simp [h1,h2]
 show({ c with F:=cJ (cJ c.F I p) J q }:Fx)={ c with F:=cJ (cJ c.F J q) I p };rw[e]
def Cy(it:Ad)(i:Nat):Obj->Prop:=λo=>∃ old,o={ cls:=.type "enumerate",dict:=none,data:=.fields #[.none,.bool false,.ref it,rawInt (i:Int),.none,old],slots:=#[] }
theorem nE{it:Ad}{i:Nat}:nT (Cy it i):=nG λo ⟨_,h⟩=>⟨_,aj Obj.data h⟩
theorem nH{a:Ad}{i:Nat}:nT (rA a i):=nG λo h=>⟨_,h.2⟩
noncomputable abbrev lU(c:Fx)(it e a:Ad)(i:Nat):Fx:=pinned (pinned c it (rA a i)) e (Cy it i)
set_option tactic.hygienic true in
theorem St.P9{it e a:Ad}{i:Nat}{oe:Obj}(hne:it≠e)(S:St (lU c it e a i) l P s)(k:∀ b o,b≠it->b≠e->s.heap.get? b=some o->s'.heap.get? b=some o)(t:Step s s')(h1:∃ o,s'.heap.get? it=some o/\rA a (i+1) o)(h2:s'.heap.get? e=some oe)(hoe:Cy it (i+1) oe):St (lU c it e a (i+1)) l P s':=by
 obtain⟨m,G,D,S'⟩:=id S;obtain⟨_,o0,e0,_⟩:=S'.sat.hid _ _ S'.kK;have hf:oe.isFreed=false:=by obtain⟨old,rfl⟩:=hoe;rfl
 have aH:St (pinned (pinned c it (rA a i)) e (Cy it (i+1))) l P { s with heap:=s.heap.update e λq=>oe }:=S.yg nE (λb o hb x=>(Heap.get?_update_ne _ _ _ _ hb).trans x) ⟨by simp [Heap.update],rfl,rfl⟩ ⟨oe,g9 _ e0 hf,hoe⟩;rw[jQ hne] at aH;show St (pinned (pinned c it (rA a (i+1))) e (Cy it (i+1))) l P s';rw[jQ hne];refine aH.yg nH (λb o hb x=>?_) ⟨?_,t.g,t.o⟩ h1
 ·by_cases CF:b=e
  ·subst CF
   rw[show({ s with heap:=s.heap.update b λq=>oe }:Sh).heap.get? b=some oe from g9 _ e0 hf] at x;obtain rfl:=kr x;exact h2
  ·refine k b o hb CF ?_
   exact(Heap.get?_update_ne s.heap b e (λq=>oe) CF).symm.trans x
 ·show(s.heap.update e λq=>oe).objs.size<=_
  rw[show(s.heap.update e λq=>oe).objs.size=s.heap.objs.size by simp [Heap.update]];exact t.le
theorem Qv{it e a:Ad}{i:Nat}(hne:it≠e)(h1:c.F it=none)(h2:c.F e=none)(S:St (lU c it e a i) l P s):St c l P s:=(S.jT nE (by show cJ c.F it _ e=none;rw[aE (gz hne)];exact h2)).jT nH h1
theorem Ud{it e a:Ad}{i:Nat}{ev:Va}(hne:it≠e)(h1:c.F it=none)(h2:c.F e=none)(h:Exc (lU c it e a i) X ev s):Exc c X ev s:=(h.jT nE (by show cJ c.F it _ e=none;rw[aE (gz hne)];exact h2)).jT nH h1
def qd(step:Nat->Va->Lv->PH->(NP)->Prop)(vs:List Va)(v:Va)(l:Lv)(P:PH)(k:NP):Prop:=match v with
 | .ref q=>step q ((vs[q]?).getD .none) l P k
 | _=>False
inductive Tw(c:Fx)(it e a:Ad)(t:Nat × Nat)(vs:List Va)(step:Nat->Va->Lv->PH->(NP)->Prop)(N:NP)(k:Nat)(s:Sh):Prop
 | mk (i:Nat) (l:Lv) (P:PH) (hk:k=vs.length-i) (hi:i<=vs.length) (S:St (lU c it e a i) l P s) (hP:P a=some (.list t vs)) (h:cM (qd step vs) (λP'=>P' a=some (.list t vs)) (((List.range vs.length).map Value.ref).drop i) l P N)
theorem Cz{it e a:Ad}{t:Nat × Nat}{vs:List Va}{es:List Expr}{kk:Nat}{tp:Pos}{body:List Stmt}{i j:Nat}{step:Nat->Va->Lv->PH->(NP)->Prop}(hne:it≠e)(O:bM c)(he:c.aZ=c.env)(hn1:c.F it=none)(hn2:c.F e=none)(hO:∀ i,bM (lU c it e a i))
  (hi:idxs K c.env.scope.names es=some [i,j])
  (hb:∀(q:Nat) v l P s (k:NP),St (lU c it e a (q+1)) ((l.set i (some (.int q 0))).set j (some v)) (kD (aK c.env.scope.names) j (kD (aK c.env.scope.names) i P)) s->step q v l P k->wpAny (MM wd) c.A (execs body c.env) (Fl (lU c it e a (q+1)) k R) (Exc (lU c it e a (q+1)) X) s)
  (S:St (lU c it e a 0) l P s) (hP:P a=some (.list t vs)) (h:cM (qd step vs) (λP'=>P' a=some (.list t vs)) ((List.range vs.length).map .ref) l P N):
  codeAny (MM wd) c.A (.forLoop (.Tuple es kk tp) (.ref e) body [] c.env) (λr s'=>match r with|.ok f=>Fl c N R f s'|.error e=>cameBackBy (MM wd) c.A c.env (Exc c X) e s') s:=by
 have ex:∀{i:Nat} {ev:Va} {s:Sh},Exc (lU c it e a i) X ev s->notedBy (MM wd) c.A c.env (cameBackBy (MM wd) c.A c.env (Exc c X)) ev s:=λh=>(Ud hne hn1 hn2 h).loop O he;refine codeAny_forLoop_any (Tw c it e a t vs step N) ?_ vs.length ⟨0,l,P,rfl,j5 _,S,hP,h⟩
 rintro k s ⟨q,l,P,rfl,hq,S,hP,h⟩
 obtain⟨m,G,D,S'⟩:=id S;obtain⟨_,oe,eo,old,rfl⟩:=S'.sat.hid _ _ S'.kK
 have hit:∃ o,s.heap.get? it=some o/\rA a q o:=by
  have hp:(lU c it e a q).F it=some (rA a q):=by show cJ (cJ c.F it _) e _ it=_;rw[aE hne,aJ]
  obtain⟨_,o,y,z⟩:=S'.sat.hid _ _ (S'.ext _ _ hp);exact⟨o,y,z⟩
 obtain⟨us,n',e1,e2⟩:=(S'.sat.rel a _ hP).2;have le:us.length=vs.length:=by rw[<-e2,ef]
 have hite:a≠e:=λz=>by
  rw[z] at e1;have q:=aj Obj.cls (kr (e1.symm.trans eo))
  injection q with q;exact absurd q ()
 have hiti:a≠it:=λz=>by obtain⟨o,y,z'⟩:=hit;rw[z] at e1;rw[e1] at y;obtain rfl:=kr y;exact absurd z'.1 (by show(Value.type "list")≠_;simp)
 rcases Nat.lt_or_ge q vs.length with hlt|hge
 ·have hgu:us[q]?=some us[q]:=f9 (by lia)
  have hgv:vs[q]?=some (ab us[q]):=by have z:=aj (λz:List Va=>z[q]?) e2;simp only[gj,hgu,i7] at z;exact z.symm
  have hd:((List.range vs.length).map Value.ref).drop q=.ref q::((List.range vs.length).map Value.ref).drop (q+1):=by rw[List.drop_eq_getElem_cons (by simpa using hlt)];simp
  rw[hd] at h;replace h:step q ((vs[q]?).getD .none) l P (λl' P'=>P' a=some (.list t vs)/\cM (qd step vs) (λP'=>P' a=some (.list t vs)) (((List.range vs.length).map .ref).drop (q+1)) l' P' N):=h;rw[hgv] at h;refine wpAny_pyNext_enum_item eo hit (bK e1) (x:=us[q]) (by simpa using hgu) (gz hne) λh' ho hit' hT hsz hk=>?_;refine wpAny_letOwnedTupleGo_enum ho λh'' he'' sb=>?_;have lte:e<s.heap.objs.size:=fy eo;have lti:it<s.heap.objs.size:=by obtain⟨o,y,_⟩:=hit;exact fy y
  have eq1:((q:Int)+1)=((q+1:Nat):Int):=by lia
  have aH:St (lU c it e a (q+1)) l P { s with heap:=h'',toks:=s.toks+1 }:=by
   refine S.P9 hne (λb o hb1 hb2 x=>(sb.2 b hb2).trans (hk b o hb2 hb1 x)) ⟨?_,rfl,rfl⟩ ?_ he'' ⟨_,by rw[eq1]⟩
   ·show s.heap.objs.size<=h''.objs.size
    rw[t6 sb];show _<=h'.objs.size;lia
   ·obtain⟨o,y,z⟩:=hit'
    exact⟨o,(sb.2 it hne).trans y,z⟩
  have ht:h''.IsTuple s.heap.objs.size #[.int q s.toks,us[q]]:=⟨_,(sb.2 _ (jr lte)).trans hT,rfl,_,rfl⟩
  have il:=AQ hi;refine jz O.hh ht ?_ ?_ λh3 hx=>?_
  ·rw[gY hi,ef,il];rfl
  ·rw[gY hi];exact Bx
  ·rw[gY hi,ir]
   have bU:St (lU c it e a (q+1)) l P { s with heap:=h3,toks:=s.toks+1 }:=aH.keep' (λb o x=>hx b o (λz=>?_) x) rfl rfl
   ·refine ym (c:=lU c it e a (q+1)) (hO _) he hi (by simp) bU λs' S'=>?_
    refine ak (hb q (ab us[q]) l P s' _ S' h) (λf jH bY=>?_) λu u x=>ex x;cases f with
    | next=>obtain⟨l',P',S',hP',h'⟩:=bY;exact⟨vs.length-(q+1),by lia,q+1,l',P',rfl,hlt,S',hP',h'⟩
    | cont=>exact ck bY
    | brk=>exact ck bY
    | ret v=>obtain⟨l',P',S',h'⟩:=bY;exact⟨l',P',Qv hne hn1 hn2 S',h'⟩
   ·rw[z] at x;exact absurd (fy x) (ig _)
 ·have hie:q=vs.length:=Nat.le_antisymm hq hge
  subst hie;rw[List.drop_eq_nil_of_le (by simp)] at h;refine wpAny_pyNext_enum_end O.hh eo hit (bK e1) (by simp;lia) λh' xb=>bq ⟨l,P,?_,h⟩;have qM:mj (pinned (pinned c e (Cy it vs.length)) it (rA a vs.length)) l P s m G D:=by rw[<-jQ hne];exact S'
  exact(qM.drop nH (by show cJ c.F e _ it=none;rw[aE hne];exact hn1) xb).jT nE hn2
end
end
section
section
variable{cc:Fx}{X:XP}{Q:VQ}{N:NP}{R:VQ}{n:Nat}{I:Ad}{p p':Obj->Prop}
noncomputable def lS(env:Env):NS->List (Str × Ad)->List (Str × Ad)
 | [],acc=>acc
 | q::r,acc=>lS env r (if q.2==.free then(q.1,(env.cells.lookup q.1).getD 0)::acc else acc)
theorem Cq{env:Env}{q:Str × NameKind}{r:NS}{acc:List (Str × Ad)}:lS env (q::r) acc=lS env r (if q.2==.free then(q.1,(env.cells.lookup q.1).getD 0)::acc else acc):=rfl
theorem EX{env:Env}:∀(nms:NS) (acc:List (Str × Ad)),(∀ q∈nms,q.2=.free->(env.cells.lookup q.1).isSome=true)->(forIn nms acc λx r=>do
   let __s:=r
   if (x.2==NameKind.free)=true then do
    let a<-cellOf env x.1
    pure (ForInStep.yield ((x.1,a)::__s))
   else pure (ForInStep.yield __s):Sem (List (Str × Ad)))=pure (lS env nms acc):=by
 intro rr;induction rr with
 | nil=>exactλacc j=>rfl
 | cons q r ih=>
  intro acc h;rw[List.forIn_cons];rw[Cq];by_cases hq:(q.2==NameKind.free)=true
  ·have h1:=h q (.head _) (by simpa using hq)
   obtain⟨a,ha⟩:=cz h1;have hc:cellOf env q.1=pure a:=by unfold cellOf;rw[ha]
   simp only[hq,if_true,hc,pure_bind,ha,Option.getD_some];exact ih _ λq' hm=>h q' (.tail _ hm)
  ·simp only[aa hq,pure_bind]
   exact ih _ λq' hm=>h q' (.tail _ hm)
theorem uL{env:Env}{sc:Scope}(h:∀ q∈sc.names,q.2=.free->(env.cells.lookup q.1).isSome=true):closureFor sc env=pure (lS env sc.names []):=by have:=EX (env:=env) sc.names [] h;unfold closureFor;simp only[bind_pure];exact this
theorem HK{env:Env}{y:Str}{a:Ad}:∀(nms:NS) (acc:List (Str × Ad)),(y,a)∈lS env nms acc->(y,a)∈acc\/((y,.free)∈nms/\a=(env.cells.lookup y).getD 0):=by
 intro rr;induction rr with
 | nil=>exactλacc h=>.inl h
 | cons q r ih=>
  intro acc h;rw[Cq] at h;rcases ih _ h with h|⟨h1,h2⟩
  ·by_cases hq:(q.2==NameKind.free)=true
   ·rw[ai hq] at h
    rcases ku h with h|h
    ·obtain⟨y',k⟩:=q
     cases h;obtain rfl:k=.free:=by simpa using hq
     exact .inr ⟨.head _,rfl⟩
    ·exact .inl h
   ·rw[aa hq] at h;exact .inl h
  ·exact .inr ⟨.tail _ h1,h2⟩
theorem qZ{env:Env}{y:Str}:∀(nms:NS) (acc:List (Str × Ad)),((y,.free)∈nms\/(acc.lookup y).isSome=true)->((lS env nms acc).lookup y).isSome=true:=by
 intro rr;induction rr with
 | nil=>
  intro acc h;rcases h with h|h
  ·cases h
  ·exact h
 | cons q r ih=>
  intro acc h;rw[Cq];refine ih _ ?_;rcases h with h|h
  ·rcases ku h with h|h
   ·subst h;right;simp
   ·exact .inl h
  ·right
   split
   ·rw[f6];split
    ·rfl
    ·exact h
   ·exact h
theorem qa{env:Env}{y:Str}{nms:NS}{a:Ad}(h:(lS env nms []).lookup y=some a)(hs:∀ q∈nms,q.2=.free->(env.cells.lookup q.1).isSome=true):(y,.free)∈nms/\env.cells.lookup y=some a:=by
 rcases HK nms [] (mem_of_lookup h) with h|⟨h1,h2⟩
 ·cases h
 ·obtain⟨b,hb⟩:=cz (hs _ h1 rfl)
  rw[hb] at h2;subst h2;exact⟨h1,hb⟩
theorem vM{ns nms:NS}:(iS ns nms).map (·.1)=nms.map (·.1):=by unfold iS;rw[ir];refine jy λq j=>?_;obtain⟨y,k⟩:=q;show(if _ then _ else _:Str × NameKind).1=y;split<;>rfl
theorem Bv{ns nms:NS}{i:Nat}{y:Str}{k:NameKind}(h:nms[i]?=some (y,k)):(iS ns nms)[i]?=some (if (k==.free&&ns.lookup y==some .cell) then(y,.cell) else(y,k)):=by unfold iS;rw[gj,h];rfl
theorem oO(O:bM c)(sc:Scope):(relabel sc c.env).names=iS c.env.scope.names sc.names:=by unfold relabel iS;show List.map _ _=List.map _ _;refine jy λq j=>?_;obtain⟨y,k⟩:=q;show(if (k==NameKind.free&&c.env.scope.kind==.function&&c.env.scope.names.lookup y==some .cell)=true then(y,NameKind.cell) else(y,k))=(if (k==NameKind.free&&c.env.scope.names.lookup y==some .cell)=true then(y,NameKind.cell) else(y,k));rw[O.knd,show(ScopeKind.function==ScopeKind.function)=true from rfl,Bool.and_true]
structure Ob(ns:NS)(sc:Scope)(k:Nat)(x:Str):Prop where
 knd:sc.kind=.function
 NU:∀ q∈sc.names,q.2≠.cell
 nd:(sc.names.map (·.1)).Nodup
 at_:sc.names[k]?=some (x,.local)
 DT:∀ q∈sc.names,q.2=.free->ns.lookup q.1=some .cell
 Ux:∀ k,sc.names.map (·.1)≠gT k
set_option tactic.hygienic true in
theorem LF{ns:NS}{sc:Scope}{k:Nat}{x:Str}(h:A6 ns sc k=true)(hk:sc.names.findIdx? (λq=>q.1==x)=some k):Ob ns sc k x:=by
 unfold A6 at h;simp only[e9,az,List.all_eq_true,bne_iff_ne,ne_eq,decide_eq_true_eq,j4] at h;obtain⟨⟨⟨⟨⟨⟨h1,h2⟩,h3⟩,h4⟩,h5⟩,h6⟩,h7⟩:=h;refine⟨h1,h2,h3,?_,λq hq hf=>?_,λk=>?_⟩;rotate_left 2
 ·unfold gT sq
  split
  ·exact h6
  ·exact h7
 ·obtain⟨kk,hkk⟩:=tL hk
  rw[hkk] at h4;cases kk<;>first|exact gR h4|exact hkk
 ·rcases h5 q hq with h|h
  ·exact absurd hf h
  ·exact h
def ug(ys:List Va):Obj->Prop:=λo=>∃ n,o=listOf ys.toArray n
theorem EL{ys:List Va}:nT (ug ys):=Ip λo ⟨n,h⟩=>⟨_,n,aj Obj.data h⟩
noncomputable abbrev pc(cc:Fx)(I D:Ad)(pin:Nat->Obj->Prop)(i:Nat)(ys:List Va):Fx:=pinned (pinned cc I (pin i)) D (ug ys)
theorem Ep{I D:Ad}{pin:Nat->Obj->Prop}{i:Nat}{ys:List Va}(h:I≠D):pc cc I D pin i ys=pinned (pinned cc D (ug ys)) I (pin i):=jQ h
theorem Sb{ev:Va}:¬ Exc c oM ev s:=λ⟨_,_,_,_,_,_,_,_,_,_,h⟩=>h
def Hx(n:Nat)(test elt:T)(l0:Lv)(k:Nat):Va->PH->(Op Va->PH->Prop)->Prop:=λv P r=>bE n test (l0.set k (some v)) P oM λb P=>aV b (bE n elt (l0.set k (some v)) P oM λv P=>r (some v) P) (r none P)
inductive Oa(cc:Fx)(I D:Ad)(pin:Nat->Obj->Prop)(n:Nat)(test elt:T)(l0:Lv)(k:Nat)(a:Ad)(o:PO)(vs:List Va)(cont:List Va->PH->Prop)(q:Nat)(s:Sh):Prop
 | mk (i:Nat) (ys:List Va) (l:Lv) (P:PH) (hq:q=vs.length-i) (hi:i<=vs.length) (hy:ys.length<=i) (S:St (pc cc I D pin i ys) l P s) (hl:∀ v,l.set k (some v)=l0.set k (some v)) (hP:rd P a=some o)
  (h:xZ (Hx n test elt l0 k) (λP'=>iE P'->rd P' a=some o) (vs.drop i) (ys.map ab) P cont)
theorem Cr{f:Nat}(H:dN f)(HT:sG f){a I D:Ad}{o:PO}{vs:List Va}{pin:Nat->Obj->Prop}{ns:NS}{l0:Lv}{k:Nat}{x:Str}{px pos:Pos}{elt it:Expr}{ifs:List Expr}{sc sc':Scope}{test:T}{cont:List Va->PH->Prop}{R:Result->Sh->Prop}
  (T:t9 a o vs pin) (wW:∀(c:Fx) l P s F d,bM c->St c l P s->rd P a=some o->cZ s.heap F d a o)
  (haI:a≠I) (hID:I≠D) (OO:∀ i ys,bM (pc cc I D pin i ys)) (hnI:cc.F I=none) (Rm:bP n cc.A) (hns:cc.env.scope.names=ns) (hx:ns[k]?=some (x,.local))
  (hif:(ifs=[]/\test=.con (.bool true))\/∃ t,ifs=[t]/\test=aC K f ns t) (hlen:vs.length<big)
  (hR:∀ ys l P s m G Dm,mj (pinned cc D (ug ys)) l P s m G Dm->cont (ys.map ab) P->R (.ok .next) s)
  (S:St (pc cc I D pin 0 []) l P s) (hl:∀ v,l.set k (some v)=l0.set k (some v)) (hP:rd P a=some o)
  (h:xZ (λv P r=>bE n test (l0.set k (some v)) P oM λb P=>aV b (bE n (aC K f ns elt) (l0.set k (some v)) P oM λv P=>r (some v) P) (r none P)) (λP'=>iE P'->rd P' a=some o) vs [] P cont):
  codeAny (MM wd) cc.A (.compLoop (.ListComp elt [⟨.Name x px,it,ifs,0⟩] sc' pos) 0 (.ref I) (.ref D) cc.env) R s:=by
 have ex:∀{i:Nat} {ys:List Va} {ev:Va} {s:Sh} {Z:Prop},Exc (pc cc I D pin i ys) oM ev s->Z:=λh=>absurd h Sb;refine codeAny_compLoop_tests (Oa cc I D pin n test (aC K f ns elt) l0 k a o vs cont) ?_ vs.length ⟨0,[],l,P,rfl,j5 _,f7 _,S,hl,hP,h⟩
 rintro q s ⟨i,ys,l,P,rfl,hi,hyl,S,hl,hP,h⟩
 have hr:∀ F d,cZ s.heap F d a o:=λF d=>wW _ _ _ _ F d (OO i ys) S hP
 have hit:∃ ob,s.heap.get? I=some ob/\pin i ob:=by
  obtain⟨m,G,Dm,S'⟩:=S;have hp:(pc cc I D pin i ys).F I=some (pin i):=by show cJ (cJ cc.F I _) D _ I=_;rw[aE hID,aJ]
  obtain⟨_,o,y,z⟩:=S'.sat.hid _ _ (S'.ext _ _ hp);exact⟨o,y,z⟩
 have hh:cc.A.handled=none:=(OO 0 []).hh;rcases Nat.lt_or_ge i vs.length with hlt|hge
 ·have hg:vs[i]?=some vs[i]:=f9 hlt
  rw[List.drop_eq_getElem_cons hlt] at h;refine T.item _ _ _ (λj=>none) 0 i _ _ _ hh haI (hr _ _) hit hg λv h' hv hp' sb=>?_;have aH:St (pc cc I D pin (i+1) ys) l P { s with heap:=h' }:=by rw[Ep hID] at S ⊢;exact S.yg (T.fld _) (λb o hb e=>(sb.2 b hb).trans e) ⟨gi (t6 sb).symm,rfl,rfl⟩ hp'
  refine jm (St.store (c:=pc cc I D pin (i+1) ys) aH (OO _ _) (by show cc.env.scope.names[k]?=_;rw[hns];exact hx) v λcE bU=>?_);rw[hl,hv] at bU;have fin:∀{ys':List Va} {P':PH} {s':Sh},ys'.length<=i+1->St (pc cc I D pin (i+1) ys') (l0.set k (some vs[i])) P' s'->(iE P'->rd P' a=some o)->xZ (Hx n test (aC K f ns elt) l0 k) (λP'=>iE P'->rd P' a=some o) (vs.drop (i+1)) (ys'.map ab) P' cont->∃ m,m<vs.length-i/\Oa cc I D pin n test (aC K f ns elt) l0 k a o vs cont m s':=λ{ys' P' s'} hy S' hP' h'=>⟨vs.length-(i+1),by lia,i+1,ys',_,P',rfl,hlt,hy,S',λv=>List.set_set ..,hP' (zm S' (OO _ _)),h'⟩
  have elt_:∀{P':PH} {s':Sh},St (pc cc I D pin (i+1) ys) (l0.set k (some vs[i])) P' s'->bE n (aC K f ns elt) (l0.set k (some vs[i])) P' oM (λv P'=>(iE P'->rd P' a=some o)/\xZ (Hx n test (aC K f ns elt) l0 k) (λP'=>iE P'->rd P' a=some o) (vs.drop (i+1)) (ys.map ab++[v]) P' cont)->wpAny (MM wd) cc.A (eval elt cc.env) (λx zO=>wpAny (MM wd) cc.A (call (.builtin "list.append") [.ref D,x]) (λ_ GH=>∃ m,m<vs.length-i/\Oa cc I D pin n test (aC K f ns elt) l0 k a o vs cont m GH)
     (notedBy (MM wd) cc.A cc.env λe s'=>R (.error e) s') zO) (notedBy (MM wd) cc.A cc.env λe s'=>R (.error e) s') s':=λ{P' s'} S' h'=>by
   refine ak (H elt (pc cc I D pin (i+1) ys) _ P' s' oM _ n (OO _ _) Rm S' (by show bE n (aC K f cc.env.scope.names elt) _ _ _ _;rw[hns];exact h')) (λu zO sN=>?_) λj j x=>ex x;obtain⟨Oe,lM,Ry,sN⟩:=sN;obtain⟨m,G,Dm,M4⟩:=id lM;obtain⟨_,ob,eo,n',rfl⟩:=M4.sat.hid _ _ M4.kK;refine append_at eo (λh5 hs e5=>?_) ?_
   ·refine fin (ys':=ys++[u]) (by simp;lia) ?_ Ry (by rw[i8];exact sN)
    refine St.yg (c:=pinned cc I (pin (i+1))) lM EL (vP hs) ⟨vQ hs,rfl,rfl⟩ ⟨_,e5,n'+1,?_⟩;show(_:Obj)=W.listOf _ _;unfold W.listOf;simp
   ·rw[ie];exact dO (k6 hyl (gy hlt hlen))
  rcases hif with⟨rfl,rfl⟩|⟨t,rfl,rfl⟩
  ·refine wpAny_tests_nil ?_
   rw[ai rfl];exact elt_ bU h
  ·refine wpAny_tests_one (ak (HT t (pc cc I D pin (i+1) ys) _ P cE oM _ _ n (OO _ _) Rm bU (by show bE n (aC K f cc.env.scope.names t) _ _ _ _;rw[hns];exact h)) (λb jH bY=>?_) λj j x=>ex x)
   obtain⟨qR,dX,bY⟩:=bY;cases b
   ·rw[aa ()]
    exact fin (by lia) dX bY.1 bY.2
   ·rw[ai rfl]
    exact elt_ dX bY
 ·have hie:i=vs.length:=Nat.le_antisymm hi hge
  subst hie;rw[List.drop_eq_nil_of_le (f7 _)] at h;refine T.done _ _ _ (λj=>none) 0 _ _ hh haI (hr _ _) hit λh' xb=>?_;rw[Ep hID] at S;obtain⟨m,G,Dm,S'⟩:=S;obtain⟨m',G',Dm',qM⟩:=S'.drop (T.fld _) (by show cJ cc.F D _ I=none;rw[aE hID];exact hnI) xb;exact hR ys l P _ m' G' Dm' qM h
end
end
section
variable{cc:Fx}{X:XP}{Q:VQ}{N:NP}{R:VQ}{n:Nat}{I:Ad}{p p':Obj->Prop}
theorem Sat.add{base h:Heap}{F:HF}{a:Ad}{o:PO}(S:Sat base h F P D)(f1:P a=none)(f2:∀ b o,P b=some o->o.fB=true->D b≠a)(f3:F a=none)(ba:base.get? a=none)(hd:o.fB=false)(r:cZ h F (D a) a o):Sat base h F (upd P a o) D:=S.gen rfl S.stay S.hid (λb x j hb=>(S.rel b x hb).2) (λj j=>rfl) ba r (λq p hq z=>bB (f3.symm.trans (z▸hq))) f2 λq=>lH (q.symm.trans hd)
theorem Sat.show{base h:Heap}{F:HF}{a:Ad}{o:PO}(S:Sat base h F P D)(ha:F a=some p)(hl:∀ oc,h.get? a=some oc->∀ v,oc.data≠.cell (some v))(hd:o.fB=false)(r:∀ F d,cZ h F d a o):Sat base h (λb=>if b=a then none else F b) (upd P a o) D:=(S.drop (.iA S.stay (λq q q e=>e) (S.hid _ _ ha).b) ha hl).add (S.fp _ _ ha) (λb o hb hd=>S.fd _ _ ha b o hb hd) (ai rfl) (S.hid _ _ ha).b hd (r _ _)
theorem HU{l0:Lv}{P0:PH}{s0:Sh}{m0:Str->Op Va}{G0:HF}{D0:Ad->Ad}{cenv:Env}{Dd:Ad}{ys:List Va}(S0:mj c l0 P0 s0 m0 G0 D0)
  (S:mj (pinned { c with env:=cenv,F:=G0 } Dd (ug ys)) l P s m G D) (hC:G0 cenv.locals=none) (hD:G0 Dd=none) (hDC:cenv.locals≠Dd) (hcell:∀ x a,cenv.cells.lookup x=some a->∃ p,G0 a=some p):
  P Dd=none/\c.env.locals≠cenv.locals/\(∀ Lf,c.aZ.frame=some Lf->Lf≠cenv.locals)/\c.F cenv.locals=none/\St (pinned c cenv.locals (dI m)) l0 (upd P Dd (.list (0,0) (ys.map ab))) s:=by
 have pD:=S.kK;obtain⟨zD,oD,eD,nD,rfl⟩:=S.sat.hid _ _ pD
 have hF:∀ b p,cJ (cJ G0 Dd (ug ys)) cenv.locals (dI m) b=some p->G b=some p:=λb p h=>by
  by_cases hb:b=cenv.locals
  ·subst hb;rw[aJ] at h;obtain rfl:=kr h;exact S.loc
  ·rw[aE hb] at h;exact S.ext _ _ h
 have sat2:Sat c.base s.heap (cJ (cJ G0 Dd (ug ys)) cenv.locals (dI m)) P D:=by
  refine S.sat.Dl hF (.inr λb p hp hh=>?_);by_cases hb:b=cenv.locals
  ·subst hb
   have:=S.loc;rw[show(pinned { c with env:=cenv,F:=G0 } Dd (ug ys)).env.locals=cenv.locals from rfl,hp] at this;obtain rfl:=kr this;exact aJ ..
  ·rw[aE hb]
   rcases S.own b p hp with q|q|⟨⟨v,rfl⟩,x,hx,_⟩
   ·exact q
   ·obtain⟨_,o,eo,po⟩:=S.sat.hid _ _ hp
    obtain⟨oc,e1,v,e2⟩:=hh;rw[eo] at e1;obtain rfl:=kr e1;exact absurd e2 (q _ po v)
   ·obtain⟨p',hp'⟩:=hcell x b hx
    have hbD:b≠Dd:=by rintro rfl;rw[hD] at hp';cases hp'
    rw[aE hbD];have:=S.ext b p' (by show cJ G0 Dd _ b=_;rw[aE hbD];exact hp');rw[hp] at this;obtain rfl:=kr this;exact hp'
 have sat3:=sat2.show (a:=Dd) (o:=.list (0,0) (ys.map ab)) (by rw[aE (gz hDC)];exact aJ ..) (λoc e v q=>by rw[eD] at e;obtain rfl:=kr e;cases q) rfl λF d=>⟨ys,nD,eD,rfl⟩
 have hF3:(λb=>if b=Dd then none else cJ (cJ G0 Dd (ug ys)) cenv.locals (dI m) b)=cJ G0 cenv.locals (dI m):=by
  funext b;by_cases hb:b=Dd
  ·subst hb;rw[ai rfl,aE (gz hDC),hD]
  ·rw[aa hb]
   by_cases hc:b=cenv.locals
   ·subst hc;rw[aJ,aJ]
   ·rw[aE hc,aE hc,aE hb]
 rw[hF3] at sat3;have ne:∀ a p,G0 a=some p->a≠cenv.locals:=λa p h=>by rintro rfl;rw[hC] at h;cases h
 refine⟨S.sat.fp _ _ pD,ne _ _ S0.loc,λLf hLf=>?_,?_,m0,cJ G0 cenv.locals (dI m),D,λa p h=>?_,(aE (ne _ _ S0.loc)).trans S0.loc,?_,λx a h=>?_,λa p h=>?_,sat3,?_,S.gens,S.os⟩
 ·obtain⟨L',mf,e1,e2⟩:=S0.nU
  rw[hLf] at e1;obtain rfl:=kr e1;exact ne _ _ e2
 ·cases q:c.F cenv.locals with
  | none=>rfl
  | some p=>exact absurd rfl (ne _ _ (S0.ext _ _ q))
 ·by_cases ha:a=cenv.locals
  ·subst ha
   rw[show(pinned c cenv.locals (dI m)).F cenv.locals=some (dI m) from aJ ..] at h;obtain rfl:=kr h;exact aJ ..
  ·rw[show(pinned c cenv.locals (dI m)).F a=c.F a from aE ha] at h
   rw[aE ha];exact S0.ext _ _ h
 ·obtain⟨L',mf,e1,e2⟩:=S0.nU
  exact⟨L',mf,e1,(aE (ne _ _ e2)).trans e2⟩
 ·obtain⟨v,hv⟩:=S0.oF x a h
  exact⟨v,(aE (ne _ _ hv)).trans hv⟩
 ·by_cases ha:a=cenv.locals
  ·subst ha
   rw[aJ] at h;obtain rfl:=kr h;exact .inl (aJ ..)
  ·rw[aE ha] at h
   exact(S0.own a p h).imp_left λz=>(aE ha).trans z
 ·intro i v e
  obtain⟨x,k,hx,b⟩:=S0.lv i v e;refine⟨x,k,hx,?_⟩;rcases b with b|⟨hc,a,v',ea,ga,q⟩
  ·exact .inl b
  ·exact .inr ⟨hc,a,v',ea,(aE (ne _ _ ga)).trans ga,q⟩
theorem St.Nn{C:Ad}{h':Heap}{mC:Str->Op Va}(S:St (pinned c C (dI mC)) l P s)(hL:c.env.locals≠C)(hf:∀ Lf,c.aZ.frame=some Lf->Lf≠C)(hn:c.F C=none)(k:Heap.SameBut C s.heap h'):St c l P { s with heap:=h' }:=by
 obtain⟨m,G,D,S⟩:=S;have hI:=S.kK;obtain⟨zI,oI,eI,pI⟩:=S.sat.hid _ _ hI;have nI:∀ b,b≠C->(if b=C then none else G b)=G b:=λb hb=>aa hb;have cellNe:∀{a v},G a=some (eU v)->a≠C:=λh=>B6 S.sat hI h;refine⟨m,λb=>if b=C then none else G b,D,λb q h=>?_,(nI _ hL).trans S.loc,?_,λx b h=>?_,λb q h=>?_,?_,λi v e=>?_,S.gens,S.os⟩
 ·have hb:b≠C:=by rintro rfl;rw[hn] at h;cases h
  exact(nI _ hb).trans (S.ext _ _ ((aE hb).trans h))
 ·obtain⟨Lf,mf,e1,e2⟩:=S.nU
  exact⟨Lf,mf,e1,(nI _ (hf _ e1)).trans e2⟩
 ·obtain⟨v,hv⟩:=S.oF x b h
  exact⟨v,(nI _ (cellNe hv)).trans hv⟩
 ·by_cases hb:b=C
  ·subst hb
   simp at h
  ·replace h:(if b=C then none else G b)=some q:=h
   rw[nI _ hb] at h;refine(S.own b q h).imp_left λz=>?_;rw[show(pinned c C (dI mC)).F b=c.F b from aE hb] at z;exact z
 ·refine S.sat.drop (.iA S.sat.stay (λb o hb e=>(k.2 b hb).trans e) zI) hI λoc e v q=>?_
  rw[eI] at e;obtain rfl:=kr e;exact dY _ pI v q
 ·obtain⟨x,kk,hx,b⟩:=S.lv i v e
  refine⟨x,kk,hx,?_⟩;rcases b with b|⟨hc,a,v',ea,ga,q⟩
  ·exact .inl b
  ·exact .inr ⟨hc,a,v',ea,(nI _ (cellNe ga)).trans ga,q⟩
theorem Gb{ns l:NS}{y:Str}(h:(iS ns l).lookup y=some .cell)(nc:∀ q∈l,q.2≠.cell):∃ q∈l,q.1=y/\q.2=.free:=by
 have hm:=mem_of_lookup h;unfold iS at hm;obtain⟨q,hq,e⟩:=List.mem_map.mp hm;refine⟨q,hq,?_⟩;have e:(if (q.2==.free&&ns.lookup q.1==some .cell)=true then(q.1,NameKind.cell) else(q.1,q.2))=(y,.cell):=e;by_cases hc:(q.2==.free&&ns.lookup q.1==some .cell)=true
 ·rw[ai hc] at e
  exact⟨(jb e).1,beq_iff_eq.mp (dm hc).1⟩
 ·rw[aa hc] at e
  exact absurd (jb e).2 (nc q hq)
theorem K8{ns l0:NS}{l:Lv}{j:Nat}{v:Va}(h:(lP (l0.map (mE ns)) l)[j]?=some (some v)):∃ y i,l0[j]?=some (y,.free)/\ns.findIdx? (λp=>p.1==y)=some i/\l[i]?=some (some v):=by
 unfold lP at h;rw[gj,gj] at h;refine dK h λo ho e=>dK ho λq hq w=>?_;rw[<-w] at e;unfold mE at e;by_cases hf:(q.2==NameKind.free)=true
 ·rw[ai hf] at e
  refine aN e λi hi e=>⟨q.1,i,hq.trans (by rw[<-beq_iff_eq.mp hf]),hi,?_⟩
  cases z:l[i]? with
  | none=>rw[z] at e;exact bB e
  | some u=>rw[z] at e;exact aj some e
 ·rw[aa hf] at e;exact bB e
theorem Td{G:HF}{I D C a:Ad}{p1 p2 p3 p:Obj->Prop}(h:cJ (cJ (cJ G I p1) D p2) C p3 a=some p):(a=C/\p=p3)\/(a=D/\p=p2)\/(a=I/\p=p1)\/G a=some p:=by
 by_cases hc:a=C
 ·rw[hc,aJ] at h;exact .inl ⟨hc,(kr h).symm⟩
 rw[aE hc] at h;by_cases hd:a=D
 ·rw[hd,aJ] at h;exact .inr (.inl ⟨hd,(kr h).symm⟩)
 rw[aE hd] at h;by_cases hi:a=I
 ·rw[hi,aJ] at h;exact .inr (.inr (.inl ⟨hi,(kr h).symm⟩))
 rw[aE hi] at h;exact .inr (.inr (.inr h))
theorem Lc(O:bM c){m0:Str->Op Va}{G0:HF}{D0:Ad->Ad}(S0:mj c l P s m0 G0 D0){sc:Scope}{k:Nat}{x:Str}(L:Ob c.env.scope.names sc k x){I Dd C:Ad}{pin:Nat->Obj->Prop}(hI:s.heap.objs.size<=I)(hD:s.heap.objs.size<=Dd)(hC:s.heap.objs.size<=C)(h1:I≠Dd)(h2:C≠I)(h3:C≠Dd)
  (kp:gU s.heap s'.heap) (sg:s'.gens=s.gens) (so:s'.os=s.os) (oI:∃ o,s'.heap.get? I=some o/\pin 0 o) (oD:∃ o,s'.heap.get? Dd=some o/\ug [] o) {mC:Str->Op Va} (oC:s'.heap.Ns C mC):
  (∀ i ys,bM (pc { c with env:=compEnvC sc (lS c.env sc.names []) C c.env,F:=G0 } I Dd pin i ys))/\G0 C=none/\G0 I=none/\G0 Dd=none/\(∀ x a,(lS c.env sc.names []).lookup x=some a->∃ p,G0 a=some p)/\St (pc { c with env:=compEnvC sc (lS c.env sc.names []) C c.env,F:=G0 } I Dd pin 0 []) (lP (sc.names.map (mE c.env.scope.names)) l) P s':=by
 have lt:∀{a p},G0 a=some p->a<s.heap.objs.size:=λ{a p} h=>let ⟨_,o,eo,_⟩:=S0.sat.hid a p h;fy eo
 have out:∀{a},s.heap.objs.size<=a->G0 a=none:=λ{a} h=>by
  cases q:G0 a with
  | none=>rfl
  | some p=>exact absurd (lt q) (Nat.not_lt.mpr h)
 have nI:∀{a p},G0 a=some p->a≠I:=λh z=>absurd (lt h) (Nat.not_lt.mpr (z▸hI));have nD:∀{a p},G0 a=some p->a≠Dd:=λh z=>absurd (lt h) (Nat.not_lt.mpr (z▸hD));have nC:∀{a p},G0 a=some p->a≠C:=λh z=>absurd (lt h) (Nat.not_lt.mpr (z▸hC));have DT:∀ q∈sc.names,q.2=.free->(c.env.cells.lookup q.1).isSome=true:=λq hq hf=>Option.isSome_iff_exists.mpr (O.cA _ (L.DT q hq hf));have hcl:∀{y a},(lS c.env sc.names []).lookup y=some a->(y,.free)∈sc.names/\c.env.cells.lookup y=some a:=λh=>qa h DT;have oF:∀ y a,(lS c.env sc.names []).lookup y=some a->∃ v,G0 a=some (eU v):=λy a h=>S0.oF y a (hcl h).2;have hnm:(relabel sc c.env).names=iS c.env.scope.names sc.names:=oO O sc;have nd':((iS c.env.scope.names sc.names).map (·.1)).Nodup:=by rw[vM];exact L.nd
 refine⟨λi ys=>?_,out hC,out hI,out hD,λy a h=>(oF y a h).imp' _ λv hv=>hv,?_⟩
 ·refine⟨O.hA,O.hh,L.knd,O.qN,O.KA,by show((relabel sc c.env).names.map (·.1)).Nodup;rw[hnm];exact nd',?_,λhe=>?_,λy z a h h'=>O.cI y z a (hcl h).2 (hcl h').2,O.fk,O.X,O.top,O.big,O.st,λe he=>?_,λy hy=>?_,O.fl,λk hk=>absurd hk (by show(relabel sc c.env).names.map (·.1)≠_;rw[hnm,vM];exact L.Ux k),fu (ja (k6 O.Oi (lt S0.loc))) hC,O.HJ⟩
  ·show cJ (cJ G0 I _) Dd _ C=none
   rw[aE h3,aE h2];exact out hC
  ·obtain⟨Lf,mf,e1,e2⟩:=S0.nU
   have hf:=O.fl;rw[e1] at hf;have:c.aZ.locals=C:=aj Env.locals he;rw[this] at hf;obtain rfl:=kr hf;exact absurd rfl (nC e2)
  ·obtain⟨q1,Li,mi,q2,q3⟩:=O.frs e he
   refine⟨q1,Li,mi,q2,?_⟩;have:=S0.ext _ _ q3;show cJ (cJ G0 I _) Dd _ Li=_;rw[aE (nD this),aE (nI this)];exact this
  ·have hy':(iS c.env.scope.names sc.names).lookup y=some .cell:=by rw[<-hnm];exact hy
   obtain⟨q,hq,rfl,e⟩:=Gb hy' L.NU;exact cz (qZ _ _ (.inl (by rw[<-e];exact hq)))
 ·refine⟨mC,cJ (cJ (cJ G0 I (pin 0)) Dd (ug [])) C (dI mC),D0,λa p h=>?_,aJ ..,?_,λy a h=>?_,λa p h=>?_,?_,?_,sg.trans S0.gens,so.trans S0.os⟩
  ·by_cases hc:a=C
   ·subst hc
    rw[show(pc { c with env:=compEnvC sc (lS c.env sc.names []) a c.env,F:=G0 } I Dd pin 0 []).F a=none from(aE h3).trans ((aE h2).trans (out hC))] at h;cases h
   ·rw[aE hc];exact h
  ·obtain⟨Lf,mf,e1,e2⟩:=S0.nU
   exact⟨Lf,mf,e1,by rw[aE (nC e2),aE (nD e2),aE (nI e2)];exact e2⟩
  ·obtain⟨v,hv⟩:=oF y a h
   exact⟨v,by rw[aE (nC hv),aE (nD hv),aE (nI hv)];exact hv⟩
  ·by_cases hc:a=C
   ·subst hc;rw[aJ] at h;obtain rfl:=kr h;exact .inr (.inl dY)
   ·rw[aE hc] at h;exact .inl h
  ·have le:s.heap.objs.size<=s'.heap.objs.size:=by obtain⟨o,e,_⟩:=oI;exact ja (k6 hI (fy e))
   refine S0.sat.hides (.of_keep S0.sat.stay kp) (λa p h=>by rw[aE (nC h),aE (nD h),aE (nI h)];exact h) λa p h=>?_;have nw:∀{a:Ad} {p:Obj->Prop},s.heap.objs.size<=a->(∃ o,s'.heap.get? a=some o/\p o)->G0 a=some p\/(s.heap.get? a=none/\c.base.get? a=none/\∃ o,s'.heap.get? a=some o/\p o):=λz w=>.inr ⟨(S0.sat.lt z).1,(S0.sat.lt z).2,w⟩;rcases Td h with⟨rfl,rfl⟩|⟨rfl,rfl⟩|⟨rfl,rfl⟩|h
   ·exact nw hC (jE oC)
   ·exact nw hD oD
   ·exact nw hI oI
   ·exact .inl h
  ·intro j v hj
   obtain⟨y,i,hq,hi,hli⟩:=K8 hj;obtain⟨kk,hkk⟩:=tL hi;have hfr:=L.DT (y,.free) (g4 hq) rfl;have hkc:kk=.cell:=kr ((aT O.nd hkk).symm.trans hfr);subst hkc;obtain⟨y',k',hy',b⟩:=S0.lv i v hli;rw[hkk] at hy';cases hy';rcases b with⟨q,_⟩|⟨_,a,v',ea,ga,q⟩
   ·cases q
   ·have hg:=Bv (ns:=c.env.scope.names) hq
    refine⟨y,.cell,?_,.inr ⟨.inl rfl,a,v',?_,by rw[aE (nC ga),aE (nD ga),aE (nI ga)];exact ga,q⟩⟩
    ·show(relabel sc c.env).names[j]?=_
     rw[hnm,hg,ai];rw[hfr];rfl
    ·obtain⟨a',ha'⟩:=cz (qZ (env:=c.env) (y:=y) sc.names [] (.inl (g4 hq)))
     have:=(hcl ha').2;rw[ea] at this;obtain rfl:=kr this;exact ha'
end
section
variable{cc:Fx}{X:XP}{Q:VQ}{N:NP}{R:VQ}{n:Nat}{I:Ad}{p p':Obj->Prop}
theorem uO{f:Nat}(H:dN f)(HT:sG f)(O:bM c)(Rm:bP n c.A)(S:St c l P s){a:Ad}{o:PO}{vs:List Va}{pin:Nat->Obj->Prop}{k:Nat}{x:Str}{px pos:Pos}{elt it:Expr}{ifs:List Expr}{sc:Scope}{test:T}{cont:List Va->PH->Prop}{RR:Va->Ad->Result->Sh->Prop}{ob:Obj}
  (T:t9 a o vs pin) (wW:∀(c:Fx) l P s F d,bM c->St c l P s->rd P a=some o->cZ s.heap F d a o)
  (L:Ob c.env.scope.names sc k x) (hp0:pin 0 ob) (hfr:ob.isFreed=false) (haS:∃ z,s.heap.get? a=some z)
  (hif:(ifs=[]/\test=.con (.bool true))\/∃ t,ifs=[t]/\test=aC K f (iS c.env.scope.names sc.names) t) (hlen:vs.length<big) (hP:rd P a=some o)
  (hsl:∀ h',pyIter (.ref s.heap.objs.size)=pyIter (.ref s.heap.objs.size)->(∃ z,h'.get? s.heap.objs.size=some z/\pin 0 z)->∀(Q:VS) (E:VS) (A:Around) (s':Sh),s'.heap=h'->Q (.ref s.heap.objs.size) s'->wpAny (MM wd) A (pyIter (.ref s.heap.objs.size)) Q E s')
  (hR:∀ Dd C (s':Sh) (ys:List Va) (P':PH) (mC:Str->Op Va),c.env.locals≠C->(∀ Lf,c.aZ.frame=some Lf->Lf≠C)->c.F C=none->P' Dd=none->St (pinned c C (dI mC)) l (upd P' Dd (.list (0,0) (ys.map ab))) s'->cont (ys.map ab) P'->RR (.ref Dd) C (.ok .next) s')
  (h:xZ (λv P r=>bE n test ((lP (sc.names.map (mE c.env.scope.names)) l).set k (some v)) P oM λb P=>aV b (bE n (aC K f (iS c.env.scope.names sc.names) elt) ((lP (sc.names.map (mE c.env.scope.names)) l).set k (some v)) P oM λv P=>r (some v) P) (r none P)) (λP'=>iE P'->rd P' a=some o) vs [] P cont):
  wpAny (MM wd) c.A (newList []) (λacc jH=>wpAny (MM wd) c.A (newFunctionEnv sc c.env.globals (lS c.env sc.names []) [] c.env.qual none .none (some c.env)) (λcenv zO=>codeAny (MM wd) c.A (.compStart (.ListComp elt [⟨.Name x px,it,ifs,0⟩] sc pos) 0 (.ref s.heap.objs.size) acc { cenv with scope:=relabel sc c.env }) (RR acc cenv.locals) zO) E jH) E { s with heap:=s.heap.push ob }:=by
 obtain⟨m0,G0,D0,S0⟩:=S;refine wpAny_newObj_type (wpAny_newFunctionEnv L.NU (by intro y hy;simp at hy) (λh₁ CH uY=>?_) L.knd);dsimp only at CH uY ⊢;have z1:(s.heap.push ob).objs.size=s.heap.objs.size+1:=jc ..;generalize hH2:(s.heap.push ob).push { cls:=.type "list",dict:=none,data:=.seq ([]:List Va).toArray }=H2 at CH uY ⊢;have z2:H2.objs.size=s.heap.objs.size+2:=by rw[<-hH2,jc,z1]
 have q1:(s.heap.push ob).objs.size<H2.objs.size:=by lia
 have q2:s.heap.objs.size<(s.heap.push ob).objs.size:=by lia
 have q3:=gy q2 q1;have old:gU s.heap h₁:=λb o e=>uY.extBut b o (gq (gy (fy e) q3)) (ek _ (hH2▸ek _ (ek _ e)));have hI:h₁.get? s.heap.objs.size=some ob:=uY.extBut _ _ (gq q3) (ek _ (hH2▸ek _ (fj _ hfr)));have hD:h₁.get? (s.heap.push ob).objs.size=some { cls:=.type "list",dict:=none,data:=.seq ([]:List Va).toArray }:=uY.extBut _ _ (gq q1) (ek _ (hH2▸fj _ rfl));obtain⟨O1,hC0,hI0,hD0,hcell,S1⟩:=Lc (s':={ s with heap:=h₁,toks:=s.toks+([]:List (Str × Va)).length }) O S0 L (I:=s.heap.objs.size) (Dd:=(s.heap.push ob).objs.size) (C:=H2.objs.size) (pin:=pin) (f7 _) (ja q2) (ja q3) (gq q2) (jr q3) (jr q1) old rfl rfl ⟨ob,hI,hp0⟩ ⟨_,hD,0,rfl⟩ CH;have hx:(iS c.env.scope.names sc.names)[k]?=some (x,.local):=Bv (ns:=c.env.scope.names) L.at_;have haI:a≠s.heap.objs.size:=by obtain⟨z,hz⟩:=haS;exact gq (fy hz)
 have loop:=Cr (sc:=sc) (sc':=sc) (pos:=pos) (px:=px) (elt:=elt) (it:=it) (R:=RR (.ref (s.heap.push ob).objs.size) H2.objs.size) (cc:={ c with env:=compEnvC sc (lS c.env sc.names []) H2.objs.size c.env,F:=G0 }) H HT T wW haI (D:=(s.heap.push ob).objs.size) (gq q2) O1 hI0 Rm (ns:=iS c.env.scope.names sc.names) (oO O sc) hx hif hlen
  (λys l P s' m G Dm S' hc=>by obtain⟨e1,e2,e3,e4,e5⟩:=HU S0 S' hC0 hD0 (jr q1) hcell;exact hR _ _ _ ys P m e2 e3 e4 e1 e5 hc) S1 (λq=>rfl) hP h
 exact codeAny_compStart_list loop (hsl _ rfl ⟨ob,hI,hp0⟩ _ _ _ _ rfl loop)
set_option tactic.hygienic true in
theorem LG{a:Ad}{k:Nat}{caps:List (Op Nat)}{elt test:T}{Q:VQ}(h:(match (Value.ref a) with
  | .ref a=>(match rd P a with
   | some (.list t vs)=>vs.length<big/\xZ (λv P r=>bE n test ((lP caps l).set k (some v)) P oM λb P=>aV b (bE n elt ((lP caps l).set k (some v)) P oM λv P=>r (some v) P) (r none P)) (λP'=>iE P'->rd P' a=some (.list t vs)) vs [] P (λacc P=>cG P (.list (0,0) acc) Q)
   | some (.tup vs)=>vs.length<big/\xZ (λv P r=>bE n test ((lP caps l).set k (some v)) P oM λb P=>aV b (bE n elt ((lP caps l).set k (some v)) P oM λv P=>r (some v) P) (r none P)) (λP'=>iE P'->rd P' a=some (.tup vs)) vs [] P (λacc P=>cG P (.list (0,0) acc) Q)
   | _=>False)
  | _=>False)):(∃ t vs,rd P a=some (.list t vs)/\vs.length<big/\xZ (λv P r=>bE n test ((lP caps l).set k (some v)) P oM λb P=>aV b (bE n elt ((lP caps l).set k (some v)) P oM λv P=>r (some v) P) (r none P)) (λP'=>iE P'->rd P' a=some (.list t vs)) vs [] P (λacc P=>cG P (.list (0,0) acc) Q))\/(∃ vs,rd P a=some (.tup vs)/\vs.length<big/\xZ (λv P r=>bE n test ((lP caps l).set k (some v)) P oM λb P=>aV b (bE n elt ((lP caps l).set k (some v)) P oM λv P=>r (some v) P) (r none P)) (λP'=>iE P'->rd P' a=some (.tup vs)) vs [] P (λacc P=>cG P (.list (0,0) acc) Q)):=by
 cases hP:rd P a with
 | none=>dsimp only at h;rw[hP] at h;exact ck h
 | some o=>
 dsimp only at h;rw[hP] at h;cases o<;>first|exact ck h|skip
 ·exact .inl ⟨_,_,rfl,h⟩
 ·exact .inr ⟨_,rfl,h⟩
set_option tactic.hygienic true in
theorem AH{f:Nat}(H:dN f)(HT:sG f)(O:bM c)(Rm:bP n c.A)(S:St c l P s){k:Nat}{x:Str}{px pos cpos:Pos}{elt it:Expr}{ifs:List Expr}{sc:Scope}{test:T}{use:Op (Va->Sem Unit)}{Q':VS}
  (CI:isSet it=false) (hk:sc.names.findIdx? (λq=>q.1==x)=some k) (hif:(ifs=[]/\test=.con (.bool true))\/∃ t,ifs=[t]/\test=aC K f (iS c.env.scope.names sc.names) t) (hlc:A6 c.env.scope.names sc k=true)
  (h:bE n (.lc (sc.names.map (mE c.env.scope.names)) k (aC K f c.env.scope.names it) (aC K f (iS c.env.scope.names sc.names) elt) test) l P X Q)
  (hR:∀ Dd C (s':Sh) (ys:List Va) (P':PH) (mC:Str->Op Va),c.env.locals≠C->(∀ Lf,c.aZ.frame=some Lf->Lf≠C)->c.F C=none->P' Dd=none->St (pinned c C (dI mC)) l (upd P' Dd (.list (0,0) (ys.map ab))) s'->cG P' (.list (0,0) (ys.map ab)) Q->compPost (MM wd) c.A (Exc c X) use Q' (.ref Dd) C (.ok .next) s'):
  wpAny (MM wd) c.A (comprehension (.ListComp elt [⟨.Name x px,it,ifs,0⟩] sc pos) sc c.env cpos (newList []) false (eval it c.env) use) Q' (Exc c X) s:=by
 have L:=LF hlc hk;refine wpAny_comprehension_free rfl (kZ CI _) (uL λq hq hf=>Option.isSome_iff_exists.mpr (O.cA _ (L.DT q hq hf))) L.knd (λy hy hl=>fM L.nd (by obtain⟨y1,y2⟩:=y;subst hl;exact hy)) (bG (H it c l P s X _ n O Rm S h) λv aP aF aH h₁=>?_);replace h₁:=h₁ (zm aH O);cases v<;>first|exact ck h₁|skip
 rename_i a;rcases LG h₁ with⟨t,vs,hP,hz,bA⟩|⟨vs,hP,hz,bA⟩
 ·obtain⟨us,kk,e1,e2⟩:=nO aH O hP
  refine wpAny_pyIter_list (bK e1) ?_;exact uO (pin:=rA a) H HT O Rm aH vU (λc l P s F d O S hP=>nO S O hP) L ⟨rfl,rfl⟩ rfl ⟨_,e1⟩ hif hz hP
   (λh' _ ⟨z,hz,hp⟩ Q E A s' e q=>wpAny_pyIter_listiter (l:=a) (i:=0) ⟨z,by rw[e];exact hz,hp.1,hp.2⟩ q) hR bA
 ·obtain⟨us,kk,e1,e2⟩:=zE aH O hP
  refine wpAny_pyIter_tuple ⟨_,e1,rfl,kk,rfl⟩ ?_;exact uO (pin:=SW a) H HT O Rm aH yq (λc l P s F d O S hP=>zE S O hP) L ⟨rfl,rfl⟩ rfl ⟨_,e1⟩ hif hz hP
   (λh' _ ⟨z,hz,hp⟩ Q E A s' e q=>wpAny_pyIter_tupleiter (t:=a) (i:=0) ⟨z,by rw[e];exact hz,hp.1,hp.2⟩ q) hR bA
theorem Qg{f:Nat}(H:dN f)(HT:sG f):∀(elt it:Expr) (x:Str) (px pos:Pos) (ifs:List Expr) (sc:Scope) (k:Nat) (test:T) (c:Fx) (l:Lv) (P:PH) (s:Sh) (X:XP) (Q:VQ) (n:Nat),bM c->bP n c.A->St c l P s->isSet it=false->sc.names.findIdx? (λq=>q.1==x)=some k->((ifs=[]/\test=.con (.bool true))\/∃ t,ifs=[t]/\test=aC K f (iS c.env.scope.names sc.names) t)->A6 c.env.scope.names sc k=true->bE n (.lc (sc.names.map (mE c.env.scope.names)) k (aC K f c.env.scope.names it) (aC K f (iS c.env.scope.names sc.names) elt) test) l P X Q->kO c l X Q (.ListComp elt [⟨.Name x px,it,ifs,0⟩] sc pos) s:=by intro elt it x px pos ifs sc k test c l P s X Q n O Rm S CI hk hif hlc h;show wpAny _ _ (eval _ _) _ _ _;rw[eval_ListComp];refine AH (use:=none) H HT O Rm S CI hk hif hlc h λDd C s' ys P' mC h1 h2 h3 h4 S' hq=>?_;obtain⟨m',G',D',qM⟩:=id S';obtain⟨_,oC,eC,pC⟩:=qM.sat.hid _ _ qM.kK;exact⟨mC,LCg.NsObj.ns pC eC,λh' sb=>⟨_,S'.Nn h1 h2 h3 sb,hq Dd h4⟩⟩
end
section
variable{cc:Fx}{X:XP}{Q:VQ}{N:NP}{R:VQ}{n:Nat}{I:Ad}{p p':Obj->Prop}
set_option tactic.hygienic true in
theorem J5(H:dN 30)(O:bM c)(Rm:bP n c.A)(S:St c l P s)(he:c.aZ=c.env){x y g:Str}{px py tp gp cp pos:Pos}{k:Nat}{m:Expr}{body:List Stmt}{tb:U}{i j:Nat}(hi:idxOf K c.env.scope.names (.Name x px)=some i)(hj:idxOf K c.env.scope.names (.Name y py)=some j)(hg:dQ K c.env.scope.names g=.con (.type "enumerate"))(hb:Kz n c X tb body)
  (h:wpS n (aK c.env.scope.names) (.sr i j (aC K 30 c.env.scope.names m) tb) l P X N R):bN c X N R (.For (.Tuple [.Name x px,.Name y py] k tp) (.Call (.Name g gp) [m] [] cp) body [] pos) s:=by
 refine wpAny_For (AK H O Rm S hg h λv aP aF aH h₁=>?_) (kZ rfl _);cases v<;>first|exact ck h₁|skip
 rename_i a;obtain⟨t,vs,hP,h₁⟩:=KS (F:=λt vs=>vs.length<big/\cM (qd (λq v l P k=>wpS n (aK c.env.scope.names) tb ((l.set i (some (.int q 0))).set j (some v)) (kD (aK c.env.scope.names) j (kD (aK c.env.scope.names) i P)) X k R) vs) (λP'=>P' a=some (.list t vs)) ((List.range vs.length).map .ref) l aP N) h₁;obtain⟨us,kk,e1,e2⟩:=eV aH hP;refine call_enumerate_list (bK e1) λh' hE hI hsz hk=>wpAny_pyIter_enum hE ?_;obtain⟨oi,hoi,hcl,hdt⟩:=hI;have hfr:oi.isFreed=false:=Obj.isFreed_of_fields hdt;have z1:(aF.heap.push oi).objs.size=aF.heap.objs.size+1:=jc ..;have bU:St (pinned c aF.heap.objs.size (rA a 0)) l aP { aF with heap:=aF.heap.push oi }:=aH.pin (s':={ aF with heap:=aF.heap.push oi }) (λb o e=>ek _ e) ⟨by show _<=(aF.heap.push oi).objs.size;lia,rfl,rfl⟩ (f7 _) ⟨oi,fj _ hfr,hcl,hdt⟩
 have kp:gU (aF.heap.push oi) h':=λb o e=>by
  by_cases hb:b=aF.heap.objs.size
  ·subst hb
   rw[fj _ hfr] at e;obtain rfl:=kr e;exact hoi
  ·exact hk b o (by rw[Heap.get?_push_ne _ _ _ hb] at e;exact e)
 have dX:St (lU c aF.heap.objs.size (aF.heap.objs.size+1) a 0) l aP { aF with heap:=h' }:=bU.pin (s':={ aF with heap:=h' }) kp ⟨by show(aF.heap.push oi).objs.size<=h'.objs.size;lia,rfl,rfl⟩ (by show(aF.heap.push oi).objs.size<=_;lia) ⟨_,hE,.none,rfl⟩;have P1:=λp=>O.pin (p:=p) aH (f7 _);have hn2:=(O.pin (p:=λu=>True) aH (ki _)).2
 have FO:∀ i,bM (lU c aF.heap.objs.size (aF.heap.objs.size+1) a i):=λi=>by have QO:St (pinned c aF.heap.objs.size (rA a i)) l aP { aF with heap:=aF.heap.push { cls:=.type "list_iterator",data:=.fields #[.ref a,.int i 0] } }:=aH.pin (s':={ aF with heap:=aF.heap.push _ }) (λb o e=>ek _ e) ⟨by simp [Heap.push],rfl,rfl⟩ (f7 _) ⟨_,fj _ rfl,rfl,rfl⟩;exact((P1 (rA a i)).1.pin (p:=Cy aF.heap.objs.size i) QO (gi (jc ..))).1
 refine Cz (gq (Nat.lt_succ_self _)) O he (P1 λu=>True).2 hn2 FO (es:=[.Name x px,.Name y py]) (i:=i) (j:=j) ?_ (λq v l P s k S' h'=>?_) dX hP h₁.2
 ·exact DX hi (DX hj rfl)
 ·exact hb (lU c _ _ a (q+1)) _ _ _ _ _ rfl rfl rfl (FO _) S' h'
set_option tactic.hygienic true in
theorem Kg(O:bM c){x:Str}{p:Pos}{v:Expr}{line:Nat}(hl:za c.env.scope.names x p v=true):∃ elt gens sc vp,v=.ListComp elt gens sc vp/\c.env.scope.names.lookup x=some .local/\swapsWith v (some (.Name x p)) line c.env=pure true:=by
 cases v<;>first|cases hl|skip
 rename_i elt gens sc vp;replace hl:(c.env.scope.names.lookup x==some .local&&p.line==vp.line&&!(sc.names.any λq=>q.1==x&&(q.2==.local||q.2==.cell)))=true:=hl;simp only[e9] at hl;have hb:(c.env.blockKind==ScopeKind.function)=true:=by unfold Env.blockKind;rw[O.knd];rfl
 refine⟨elt,gens,sc,vp,rfl,by simpa using hl.1.1,?_⟩;have h1:(c.env.kindOf x==some NameKind.local)=true:=hl.1.1;have h2:(p.line==(Expr.ListComp elt gens sc vp).pos.line)=true:=hl.1.2;have h3:(!(sc.names.any λx_1=>match x_1 with|(n,k)=>n==x&&(k==.local||k==.cell)))=true:=hl.2;show pure (c.env.blockKind==ScopeKind.function&&c.env.kindOf x==some NameKind.local&&p.line==(Expr.ListComp elt gens sc vp).pos.line&&!(sc.names.any λx_1=>match x_1 with|(n,k)=>n==x&&(k==.local||k==.cell)))=_;rw[hb,h1,h2,h3];rfl
theorem J4{f:Nat}(hf:f+1=30)(H:dN f)(HT:sG f)(O:bM c)(Rm:bP n c.A)(S:St c l P s)(he:c.aZ=c.env){x:Str}{p pos:Pos}{v:Expr}{i:Nat}(hsw:za c.env.scope.names x p v=true)(hi:idxOf K c.env.scope.names (.Name x p)=some i)
  (h:wpS n (aK c.env.scope.names) (.dR i (aC K 30 c.env.scope.names v)) l P X N R):bN c X N R (.Assign [.Name x p] v pos) s:=by
 obtain⟨elt,gens,sc,vp,rfl,hk,hs⟩:=Kg O (line:=pos.line) hsw
 have hx:c.env.scope.names[i]?=some (x,.local):=by
  rcases u7 hi with q|q
  ·exact q
  ·rw[aT O.nd q] at hk;cases hk
 replace h:bE n (aC K 30 c.env.scope.names (.ListComp elt gens sc vp)) l P X λv P=>N (l.set i (some v)) P:=by have h':bE n (aC K 30 c.env.scope.names (.ListComp elt gens sc vp)) l P X λv P=>N (l.set i (some v)) (kD (aK c.env.scope.names) i P):=h;rw[show(λ(v:Va) P=>N (l.set i (some v)) (kD (aK c.env.scope.names) i P))=λv P=>N (l.set i (some v)) P from by funext v P;rw[rL hx]] at h';exact h'
 rw[<-hf] at h
 have fin:∀{ifs:List Expr} {y:Str} {py:Pos} {it:Expr} {k:Nat} {test:T},gens=[⟨.Name y py,it,ifs,0⟩]->isSet it=false->sc.names.findIdx? (λq=>q.1==y)=some k->((ifs=[]/\test=.con (.bool true))\/∃ t,ifs=[t]/\test=aC K f (iS c.env.scope.names sc.names) t)->A6 c.env.scope.names sc k=true->bE n (.lc (sc.names.map (mE c.env.scope.names)) k (aC K f c.env.scope.names it) (aC K f (iS c.env.scope.names sc.names) elt) test) l P X (λv P=>N (l.set i (some v)) P)->bN c X N R (.Assign [.Name x p] (.ListComp elt gens sc vp) pos) s:=λ{ifs y py it k test} hg CI hky hif hlc h9=>by
  subst hg;unfold bN;rw[exec_Assign_Name_used _ _ _ _ hs];refine af (b9 (af ?_));show wpAny _ c.A (do let _<-comprehension (.ListComp elt [⟨.Name y py,it,ifs,0⟩] sc vp) sc c.env _ (newList []) false (eval it c.env) (some (assign (.Name x p) c.env))) _ _ s;refine af (ak (AH (Q':=λj s'=>Fl c N R .next s') H HT O Rm S CI hky hif hlc h9 λDd C s' ys P' mC h1 h2 h3 h4 S' hq=>?_) (λj s' hq=>aq (aq hq)) λj j e=>e);show wpAny _ c.A (assign (.Name x p) c.env (.ref Dd)) _ _ _
  have O':bM (pinned c C (dI mC)):=by
   obtain⟨m',G',D',qM⟩:=id S';refine⟨O.hA,O.hh,O.knd,O.qN,O.KA,O.nd,(aE h1).trans O.nF,λhc y a e1 e2=>(aE ?_).trans (O.cF hc y a e1 e2),O.cI,O.fk,O.X,O.top,O.big,O.st,λe hm=>?_,O.cA,O.fl,O.OB,O.Oi,O.HJ⟩
   ·obtain⟨v,hv⟩:=qM.oF y a e1
    exact B6 qM.sat qM.kK hv
   ·obtain⟨q1,Li,mi,q2,q3⟩:=O.frs e hm
    exact⟨q1,Li,mi,q2,(aE (λz=>by rw[z,h3] at q3;cases q3)).trans q3⟩
  refine jm (St.store (c:=pinned c C (dI mC)) S' O' hx (.ref Dd) λs'' qM=>?_);obtain⟨m',G',D',S3⟩:=id qM;obtain⟨_,oC,eC,pC⟩:=S3.sat.hid _ _ S3.kK;exact⟨mC,LCg.NsObj.ns pC eC,λh' sb=>(qM.Nn h1 h2 h3 sb).next (hq Dd h4)⟩
 obtain⟨y,py,it,ifs,k,t,hg,h1,h2,h3,h4,h5⟩:=xN h;exact fin hg h1 h2 h4 h3 h5
end
section
variable{cc:Fx}{X:XP}{Q:VQ}{N:NP}{R:VQ}{n:Nat}{I:Ad}{p p':Obj->Prop}
theorem qj{e:Op Expr}{r:List (Op Expr)}{ns:List Str}(h:jN (e::r)=some ns):∃ k i p ns',e=some (.Constant (.str k) i p)/\jN r=some ns'/\ns=k::ns':=by obtain⟨k,h1,h2⟩:=dg h;obtain⟨x,rfl,h3⟩:=dg h1;obtain⟨i,p,rfl⟩:=By h3;obtain⟨ns',h4,h5⟩:=dw h2;exact⟨k,i,p,ns',rfl,h4,h5.symm⟩
theorem yZ{r:List (Op Expr)}{ns:List Str}(h:jN r=some ns):r.all (·.isSome)=true:=by
 induction r generalizing ns with
 | nil=>rfl
 | cons e r ih=>obtain⟨k,i,p,ns',rfl,h2,rfl⟩:=qj h;rw[List.all_cons,ih h2];rfl
theorem Ih{f:Nat}(H:dN f)(O:bM c)(Rm:bP n c.A){pos:Pos}:∀(ks:List (Op Expr)) (vs:List Expr) (ns:List Str) (R':List Va->PH->Prop) (P:PH) (s:Sh),jN ks=some ns->ks.length=vs.length->St c l P s->GU n (mF (aC K f c.env.scope.names) vs) l P X R'->wpAny (MM wd) c.A (evalPairs (pairTrees ks vs c.env pos)) (λprs s'=>∃ us P',St c l P' s'/\R' (us.map ab) P'/\us.length=ns.length/\Carries (strKind pw wd) prs (ns.zip us)) (Exc c X) s:=by
 intro rr;induction rr with
 | nil=>intro vs ns R' P s hn hl S h;obtain rfl:=List.length_eq_zero_iff.mp hl.symm;obtain rfl:=kr hn;exact pairTrees_nil_walk ⟨[],P,S,h,rfl,trivial⟩
 | cons e ks ih=>intro vs ns R' P s hn hl S h;obtain⟨v,vs,rfl⟩:=jw hl.symm;obtain⟨k,i,p,ns',rfl,h2,rfl⟩:=qj hn;refine pairTrees_cons_walk (wpAny_Constant_str ?_);refine bG (H v c l P _ X _ n O Rm (S.toks _) h) λu aP aF aH h₁=>?_;refine ak (ih vs ns' _ aP aF h2 (by simpa using hl) aH h₁) (λprs cE bA=>?_) λq q x=>x;obtain⟨us,gV,bU,hR,hlen,hc⟩:=bA;exact⟨u::us,gV,bU,hR,by simp [hlen],bz _ wd k _,rfl,hc⟩
theorem J0{f:Nat}(H:dN f):∀(ks:List (Op Expr)) (vs:List Expr) (pos:Pos) (ns:List Str) (c:Fx) (l:Lv) (P:PH) (s:Sh) (X:XP) (Q:VQ) (n:Nat),bM c->bP n c.A->St c l P s->jN ks=some ns->ns.length=vs.length->ks.length=vs.length->bE n (.AJ ns (fY (aC K f c.env.scope.names) vs)) l P X Q->kO c l X Q (.Dict ks vs pos) s:=by
 intro ks vs pos ns c l P s X Q n O Rm S hn hz hz2 h;obtain⟨⟨h1,h2,h3⟩,h⟩:=h;obtain⟨o',e1,e2⟩:=Heap.dictOf_iff.mp (Heap.DictOf.new (knd:=strKind pw wd) s.heap);obtain⟨hPd,aH⟩:=S.uS (t:=s.toks) (o:=.dict (0,0) []) cN (f7 _) e1 rfl (λF d e=>⟨⟨o',[],e,e2,rfl⟩,λz=>absurd z ()⟩);have h:=(dS (h _ hPd)).2;refine wpAny_Dict_walk (knd:=strKind pw wd) (yZ hn) hz2 (by rintro rfl;simp at hz2;lia) (by lia) (ak (Ih H O Rm ks vs ns _ _ _ hn hz2 aH h) (λprs cE bA=>?_) λq q x=>x);obtain⟨us,gV,bU,⟨hlen,hd,hQ⟩,hl,hc⟩:=bA;obtain⟨_,ob,kvs',g,hi,e⟩:=iC bU O hd;have hk:kvs'=[]:=by simpa using e
 subst hk;have nd:((ns.zip us).map (·.1)).Nodup:=by rw[List.map_fst_zip (by lia)];exact h1
 refine⟨ns.zip us,hc,Heap.dictOf_iff.mpr ⟨ob,g,hi⟩,λh' hd' sb=>?_⟩;rw[merged_nil_of_nodup _ nd] at hd';obtain⟨UE,x1,x2⟩:=Heap.dictOf_iff.mp hd';have ez:(ns.zip us).map kP=ns.zip (us.map ab):=by rw[List.zip_map_right];rfl
 have:=bU.set (s':={ cE with heap:=h',toks:=cE.toks+prs.length }) (o':=.dict (0,0) (ns.zip (us.map ab))) (vP sb) ⟨vQ sb,rfl,rfl⟩ hd rfl rfl λF dd=>⟨⟨UE,_,x1,x2,ez⟩,λz=>absurd z ()⟩
 exact⟨_,this,hQ⟩
end
section
theorem vS:∀ es:List (Nat × Ad),TriplesOk (zy es):=by
 intro rr;induction rr with
 | nil=>exact trivial
 | cons _ r ih=>exact ih
theorem Ak{pos:Pos}(hc:pos.col<1000):∀ es:List (Nat × Ad),codeAmong pos (zy es)=(es.lookup (pos.line*1000+pos.col)).map .ref:=by
 intro rr;induction rr with
 | nil=>exact rfl
 | cons e r ih=>
  have ih:=ih;show(if (((e.1/1000:Nat):Int)==(pos.line:Int)&&((e.1%1000:Nat):Int)==(pos.col:Int))=true then some (.ref e.2) else codeAmong pos (zy r))=_;obtain⟨k,a⟩:=e;rw[f6,ih];by_cases hk:pos.line*1000+pos.col=k
  ·subst hk
   rw[ai]
   ·simp
   ·simp only[e9,az]
    constructor<;>lia
  ·rw[aa,bu hk]
   simp only[e9,az,not_and];intro h1 h2;apply hk;lia
theorem Mq{es:List (Nat × Ad)}{pos:Pos}{a:Ad}(hc:pos.col<1000):(zy es).toArray++#[rawInt pos.line,rawInt pos.col,.ref a]=(zy (es++[(pos.line*1000+pos.col,a)])).toArray:=by
 unfold zy;rw[List.flatMap_append];have h1:(pos.line*1000+pos.col)/1000=pos.line:=by lia
 have h2:(pos.line*1000+pos.col)%1000=pos.col:=by lia
 simp;constructor<;>congr 1<;>lia
theorem x9{α:Type}{p:α->Bool}{x:α}{l:List α}(h:x∈l.takeWhile p):p x=true:=dz List.all_takeWhile x h
theorem xg{α:Type}{p:α->Bool}{l:List α}{i:Nat}{x:α}(h:(l.takeWhile p)[i]?=some x):l[i]?=some x:=by
 obtain⟨t,e⟩:=List.takeWhile_prefix (l:=l) p;have q:(l.takeWhile p++t)[i]?=some x:=(List.getElem?_append_left (List.getElem?_eq_some_iff.mp h).1).trans h
 rwa [e] at q
structure QM(ns:NS)(sc:Scope)(pos:Pos):Prop where
 nms:ns.map (·.1)=gT (pos.line*1000+pos.col)
 col:pos.col<1000
 len:sc.names.length<10
 knd:sc.kind=.function
 gen:sc.isGenerator=false
 co:sc.isCoroutine=false
 rest:∀ q∈sc.names.dropWhile (λq=>q.2==.free),q.2=.globalImplicit
 nd:(sc.names.map (·.1)).Nodup
 DT:∀ q∈sc.names,q.2=.free->ns.lookup q.1=some .cell
theorem IQ{ns:NS}{sc:Scope}{pos:Pos}(h:rD ns sc pos=true):QM ns sc pos:=by
 unfold rD at h;simp only[e9,az,List.all_eq_true,bne_iff_ne,ne_eq,decide_eq_true_eq,j4,i6] at h;obtain⟨⟨⟨⟨⟨⟨⟨⟨h1,h2⟩,h3⟩,h4⟩,h5⟩,h6⟩,h7⟩,h8⟩,h9⟩:=h;refine⟨h1,h2,h3,h4,h5,h6,h7,h8,λq hq hf=>?_⟩;rcases h9 q hq with h|h
 ·exact absurd hf h
 ·exact h
theorem IC{ns:NS}{y:Str}{k:NameKind}(h:ns.lookup y=some k):∃ i,ns.findIdx? (λp=>p.1==y)=some i:=by
 cases q:ns.findIdx? (λp=>p.1==y) with
 | some i=>exact⟨i,rfl⟩
 | none=>have:=List.findIdx?_eq_none_iff.mp q _ (mem_of_lookup h);simp at this
section
variable{cc:Fx}{X:XP}{Q:VQ}{N:NP}{R:VQ}{n:Nat}{I:Ad}{p p':Obj->Prop}
theorem K9(O:bM c)(S:mj c l P s m G D):∀(fr:NS) (vs:List Va),(∀ q∈fr,q.2=.free/\c.env.scope.names.lookup q.1=some .cell)->(fr.map λq=>(c.env.scope.names.findIdx? (λp=>p.1==q.1)).getD 0).map (λi=>(l[i]?).join)=vs.map some->∃ cs:List (Ad × Va),cs.map (λq=>ab q.2)=vs/\(∀ q∈cs,G q.1=some (eU (some q.2)))/\cs.length=fr.length/\∀(i:Nat) (q:Ad × Va),cs[i]?=some q->∃ y,fr[i]?=some (y,.free)/\c.env.cells.lookup y=some q.1:=by
 intro rr;induction rr with
 | nil=>
  intro vs u h;have:vs=[]:=by simpa using h.symm
  exact⟨[],by simp [this],by simp,rfl,by simp⟩
 | cons yk r ih=>
  obtain⟨y,k⟩:=yk;intro vs hf h;obtain⟨h1,h2⟩:=hf _ (.head _);obtain rfl:k=.free:=h1;cases vs with
  | nil=>simp at h
  | cons v vs=>
   rw[gn,gn,gn,List.cons.injEq] at h;obtain⟨cs,e1,e2,e3,e4⟩:=ih vs (λq hq=>hf q (.tail _ hq)) h.2;obtain⟨i,hi⟩:=IC h2;have hv:=h.1;rw[show c.env.scope.names.findIdx? (λp=>p.1==(y,NameKind.free).1)=some i from hi,Option.getD_some] at hv
   have hli:l[i]?=some (some v):=by
    cases z:l[i]? with
    | none=>rw[z] at hv;cases hv
    | some z'=>rw[z] at hv;simp at hv;rw[hv]
   obtain⟨kk,hkk⟩:=tL hi;have hkc:kk=.cell:=kr ((aT O.nd hkk).symm.trans h2);subst hkc;obtain⟨y',k',hy',b⟩:=S.lv i v hli;rw[hkk] at hy';cases hy';rcases b with⟨q,_⟩|⟨_,a,v',ea,ga,q⟩
   ·cases q
   ·refine⟨(a,v')::cs,by simp [e1,q],λq' hq=>?_,by simp [e3],λj q' hj=>?_⟩
    ·rcases ku hq with rfl|hq
     ·exact ga
     ·exact e2 _ hq
    ·cases j with
     | zero=>simp at hj;subst hj;exact⟨y,rfl,ea⟩
     | succ j=>simp only[List.getElem?_cons_succ] at hj ⊢;exact e4 j q' hj
set_option tactic.hygienic true in
theorem MG{f:Nat}:∀(body:Expr) (sc:Scope) (pos:Pos) (c:Fx) (l:Lv) (P:PH) (s:Sh) (X:XP) (Q:VQ) (n:Nat),bM c->bP n c.A->St c l P s->rD c.env.scope.names sc pos=true->bE n (.lam (pos.line*1000+pos.col) ((sc.names.takeWhile λq=>q.2==.free).map λq=>(c.env.scope.names.findIdx? (λp=>p.1==q.1)).getD 0) (aC K f sc.names body)) l P X Q->kO c l X Q (.Lambda ⟨[],[],none,[],[],none,[]⟩ body sc pos) s:=by
 intro body sc pos c l P s X Q n O Rm S hl h;have L:=IQ hl;obtain⟨hb,vs,hvs,h⟩:=h;obtain⟨hcode,DV⟩:=O.OB _ L.nms;have DT:∀ q∈sc.names,q.2=.free->(c.env.cells.lookup q.1).isSome=true:=λq hq hf=>Option.isSome_iff_exists.mpr (O.cA _ (L.DT q hq hf));have hcl:=uL (env:=c.env) (sc:=sc) DT;obtain⟨m,G,D,S⟩:=S;obtain⟨cs,e1,e2,e3,e4⟩:=K9 O S (sc.names.takeWhile λq=>q.2==.free) vs (λq hq=>by
  have h1:=x9 hq;have h2:q∈sc.names:=(List.takeWhile_sublist _).subset hq;have h3:q.2=.free:=by simpa using h1
  exact⟨h3,L.DT q h2 h3⟩) hvs
 have key:∀(pm:Va) (c':Ad) (ctv:Va) (o:Obj),o=kla_obj "<lambda>" (c.env.qual++"<lambda>") ⟨[],[],none,[],[],none,[]⟩ body sc (lS c.env sc.names []) pm c' ctv->M1 K (pos.line*1000+pos.col) o cs (.ref c'::vs):=λpm c' ctv o ho=>by
  subst ho;refine⟨_,c',body,f,rfl,by rw[e1],rfl,DV,rfl,hb,rfl,rfl,rfl,rfl,rfl,L.knd,L.gen,L.co,L.nd,λq hq=>?_,λi q hi=>?_,λx a hx=>?_,λx y a hx hy=>?_,λk hk=>?_⟩
  ·have hq':q∈sc.names.takeWhile (λq=>q.2==.free)++sc.names.dropWhile (λq=>q.2==.free):=by rw[List.takeWhile_append_dropWhile];exact hq
   rcases cy hq' with h|h
   ·have h1:=x9 h
    exact .inl (by simpa using h1)
   ·exact .inr (L.rest q h)
  ·obtain⟨y,y1,y2⟩:=e4 i q hi
   have y3:=xg y1;refine⟨y,y3,?_⟩;obtain⟨a',ha'⟩:=cz (qZ (env:=c.env) (y:=y) sc.names [] (.inl (g4 y3)));have:=(qa ha' DT).2;rw[y2] at this;obtain rfl:=kr this;exact ha'
  ·obtain⟨h1,h2⟩:=qa hx DT
   have hq':(x,NameKind.free)∈sc.names.takeWhile (λq=>q.2==.free)++sc.names.dropWhile (λq=>q.2==.free):=by rw[List.takeWhile_append_dropWhile];exact h1
   rcases cy hq' with h|h
   ·obtain⟨i,hi⟩:=List.mem_iff_getElem?.mp h
    have hlt:i<cs.length:=by rw[e3];exact(List.getElem?_eq_some_iff.mp hi).1
    obtain⟨y,y1,y2⟩:=e4 i _ (f9 hlt);rw[hi] at y1;cases y1;rw[h2] at y2;exact⟨cs[i],j9 hlt,(kr y2).symm⟩
   ·have:=L.rest _ h
    cases this
  ·exact O.cI x y a (qa hx DT).2 (qa hy DT).2
  ·have h1:=aj List.length hk
   rw[ef] at h1;have h2:=L.len;have h3:10<=(gT k).length:=by unfold gT;split<;>decide
   rw[<-h1] at h3;exact absurd h2 (Nat.not_lt.mpr h3)
 have cells:∀ q∈cs,∃ p,G q.1=some p/\p=λoc:Obj=>oc.data=.cell (some q.2):=λq hq=>⟨_,e2 q hq,rfl⟩
 split at h
 ·rename_i es hP
  have wW:=S.sat.rel _ _ hP;have hC:CodeHd s.heap (fC (pos.line*1000+pos.col)) (dP (pos.line*1000+pos.col)):=(O.HJ.HJ _).keeps S.sat.stay;have hg:s.heap.Ns mainGlobals c.mg:=O.top.g.keeps S.sat.stay;obtain⟨bm,ob,b1,b2,b3,b4,b5,b6⟩:=O.HJ.VG;have hbP:bm≠dP (pos.line*1000+pos.col):=λq=>by have:=wW.1;rw[<-q,b3] at this;cases this
  have hbG:bm≠mainGlobals:=λq=>by obtain⟨o,es,ep,e,hd,_⟩:=O.top.g;rw[q,e] at b3;obtain rfl:=kr b3;rw[hd] at b6;cases b6
  have hgP:mainGlobals≠dP (pos.line*1000+pos.col):=λq=>by obtain⟨o,es,ep,e,hd,_⟩:=O.top.g;have:=wW.1;rw[<-q,e] at this;cases this
  have hbat:s.heap.BuiltinsAt c.mg (dP (pos.line*1000+pos.col)):=⟨bm,ob,b1,b2,hbG,hbP,S.sat.stay _ _ b3,b4,b5,b6⟩
  refine kla_eval rfl ?_;split at h
  ·rename_i cd hcd
   obtain⟨hPc,hQ⟩:=h;refine kla_makeFunctionHit (mg:=c.mg) hcl O.qN hg hcode hC wW.2 (vS es) (by rw[Ak L.col,hcd];rfl) hbat λctv h' tk hk hsz=>?_;obtain⟨z1,z2⟩:=S.sat.lt hsz;refine⟨_,⟨m,G,D,S.moved (S.sat.alloc (a:=h'.objs.size) (o:=.lam (pos.line*1000+pos.col) (.ref cd::vs)) (.of_keep S.sat.stay λb o e=>ek _ (hk b o e)) z1 z2 rfl ⟨_,cs,fj _ rfl,key _ _ _ _ rfl,cells⟩) rfl rfl⟩,hQ _ (S.sat.fresh z1).1⟩
  ·rename_i hcd
   refine kla_makeFunction (mg:=c.mg) hcl O.qN hg hcode hC wW.2 (vS es) (by rw[Ak L.col,hcd];rfl) hgP hbat λc' ctv h' tk hx hc1 hc2 hrec htab=>?_;obtain⟨z1,z2⟩:=S.sat.lt hc1;obtain⟨f1,f2,f3⟩:=S.sat.fresh z1;have hne:c'≠dP (pos.line*1000+pos.col):=λq=>by rw[q,hP] at f1;cases f1
   have htl:dP (pos.line*1000+pos.col)<s.heap.objs.size:=fy wW.2;have hsz:s.heap.objs.size<=h'.objs.size:=ja (k6 hc1 hc2);have sat1:=S.sat.set (h':=h') (o':=.tab (es++[(pos.line*1000+pos.col,c')])) (.iA S.sat.stay (λb o hb e=>hx b o hb e) wW.1) hP rfl rfl (by show h'.get? _=_;rw[htab,Mq L.col])
   have sat2:=sat1.add (a:=c') (o:=.code (pos.line*1000+pos.col)) (by rw[aD hne];exact f1) (λb o hb hd=>by
    by_cases hbt:b=dP (pos.line*1000+pos.col)
    ·subst hbt;rw[aA] at hb;obtain rfl:=kr hb;cases hd
    ·rw[aD hbt] at hb;exact f2 b o hb hd) f3 z2 rfl (by obtain⟨cx,oc,vs',tq,q1,q2,q3,q4⟩:=hrec;obtain rfl:=Value.ref.inj q1;rw[DV] at q4;exact⟨oc,vs',tq,q2,q3,q4⟩)
   obtain⟨y1,y2⟩:=S.sat.lt hsz
   have yn:h'.get? h'.objs.size=none:=by
    cases q:h'.get? h'.objs.size with
    | none=>rfl
    | some o=>exact absurd (fy q) (ig _)
   have sat3:=sat2.alloc (a:=h'.objs.size) (o:=.lam (pos.line*1000+pos.col) (.ref c'::vs)) (.of_keep sat2.stay (show gU h' (h'.push (kla_obj "<lambda>" (c.env.qual++"<lambda>") ⟨[],[],none,[],[],none,[]⟩ body sc (lS c.env sc.names []) ((c.mg "__name__").getD .none) c' ctv)) from cN)) yn y2 rfl ⟨_,cs,fj _ rfl,key _ _ _ _ rfl,cells⟩;exact⟨_,⟨m,G,D,S.moved sat3 rfl rfl⟩,h c' f1 hne _ (sat2.fresh yn).1⟩
 ·exact ck h
end
end
theorem FH:typeLookup (.type "list") "keys"=pure none:=by rw[typeLookup_type,builtinLookup_eq_fast];kernel_rfl
theorem Fg{A:Around}{E:VS}{s:Sh}{a:Ad}{xs:Array Va}{k:Nat}{Q:Op Va->Sh->Prop}
  (hx:s.heap.get? a=some { cls:=.type "list",dict:=none,data:=.seq xs k,slots:=#[] }) (hA:A.handled=none)
  (h:∀ h' tk,gU s.heap h'->Q none { s with heap:=h',toks:=tk }):wpAny (model pw wd) A (getAttr? (.ref a) "keys") Q E s:=by
 obtain⟨hp,g,d,tk,os⟩:=s;have hT:∀ tk',(⟨hp,g,d,tk',os⟩:Sh).TypeIs (.ref a) "list":=λq=>⟨_,hx,rfl⟩
 have f1:=sub_AttributeError;have f3:=F.slot_list_getattribute.lookup;have f4:=F.slot_list_getattribute.bind (.ref a);have f5:=am_list_getattr_none;unfold getAttr? getAttrBy? getAttrBy
 repeat (any_goals (first|assumption|exact hT _|((with_reducible show wpAny _ _ (call (Value.builtin "list.__getattribute__") _ _) _ _ _);refine call_meets F.slot_list_getattribute (hT _) am_entry_list_getattribute (F.args_list_getattribute_2 _ _) (meets_getattribute_miss_list a xs k #[] "keys" _ FH ⋯ (by size_fits)) ⟨hx,hA,λh' tk' e hx'=>?_⟩)|wp_step))
 obtain⟨t',u',he⟩:=hx'.there;show wpAny _ _ (getattributeRaised _ _ _ _ _ _ _) _ _ _;unfold getattributeRaised
 repeat (any_goals (first|assumption|wp_step))
 exact h _ _ hx'.keeps
section
variable{K:Type}[DecidableEq K]{knd:KeyKind pw wd K}{A:Around}{E:VS}{s:Sh}{R:Result->Sh->Prop}{kvs:List (K × Va)}
theorem mG:entryFor table "dict.update.loop"=some Builtin.«dict.update.loop»:=entryFor_of_tree (by kernel_rfl)
theorem gK:plainId "dict.update.loop"=true:=⋯
theorem pair_items{a:Ad}{x y:Va}{Q:List Va->Sh->Prop}(h:s.heap.get? a=some { cls:=.type "tuple",data:=.seq #[x,y] })(hq:Q [x,y] s):wpAny (model pw wd) A (Builtin.Dict.pairItems (.ref a)) Q E s:=by unfold Builtin.Dict.pairItems;refine af (wpAny_typeOf (T:="tuple") ⟨_,h,rfl⟩ ?_);rw[ai ()];refine af ?_;exact wpAny_seqItems h rfl (aq hq)
theorem Kr{L I D:Ad}(hh:A.handled=none)(hn:kvs.length<=sizeLine)(hIL:I≠L)(hID:I≠D)(hLD:L≠D){as:List Ad}(hal:as.length=kvs.length)(hI:∀ a∈as,a≠I/\a≠D){h₁:Heap}
  (hR:∀ h' tk,(∀ b o,b≠I->b≠D->h₁.get? b=some o->h'.get? b=some o)->h'.DictOf knd D (merged [] kvs)->R (.ok (.ret .none)) { s with heap:=h',toks:=tk }):
  ∀(k i:Nat) (h:Heap) (tk:Nat),kvs.length-i=k->i<=kvs.length->h.IsListIter I L i->h.IsList L (as.map Value.ref).toArray->(∀(j:Nat) (a:Ad),as[j]?=some a->∃ key kk x,kvs[j]?=some (kk,x)/\knd.is kk key=true/\h.get? a=some { cls:=.type "tuple",data:=.seq #[key,x] })->h.DictOf knd D (merged [] (kvs.take i))->(∀ b o,b≠I->b≠D->h₁.get? b=some o->h.get? b=some o)->codeAny (model pw wd) A (.builtin "dict.update.loop" ⟨[.ref D,.ref I,rawInt i,.none],[]⟩) R { s with heap:=h,toks:=tk }:=by
 intro k;induction k with
 | zero=>
  intro i h tk hk hi hit hl ht hd hkeep;have hin:i=kvs.length:=by lia
  refine codeAny_builtin mG ?_;rw[Around.under_plainId gK _];show wpAny _ A.in1 (pyNext (.ref I)>>=_) _ _ _;refine af (wpAny_pyNext_list_end (s:={ s with heap:=h,toks:=tk }) (A:=A.in1) hh hit hl (by simp [hal,hin]) λh' he=>?_);show wpAny _ _ (Builtin.Dict.addKeywords D []>>=_) _ _ _;refine af (aq (aq (hR h' tk (λb o h1 h2 e=>he b o h1 (hkeep b o h1 h2 e)) ?_)));obtain⟨o,eo,d1⟩:=Heap.dictOf_iff.mp hd;rw[hin,List.take_length] at d1;exact Heap.dictOf_iff.mpr ⟨o,he D o (gz hID) eo,d1⟩
 | succ k ih=>
  intro i h tk hk hi hit hl ht hd hkeep;have hlt:i<as.length:=by lia
  have ha:as[i]?=some as[i]:=f9 hlt;generalize as[i]=a at ha;obtain⟨key,kk,x,e1,e2,e3⟩:=ht i a ha;obtain⟨n1,n2⟩:=hI a (g4 ha);refine codeAny_builtin mG ?_;rw[Around.under_plainId gK _];show wpAny _ A.in1 (pyNext (.ref I)>>=_) _ _ _;refine af (wpAny_pyNext_list_item (s:={ s with heap:=h,toks:=tk }) (x:=.ref a) hit hl (by simp [ha]) λh' hit' sb=>?_);have kp:∀ b o,b≠I->h.get? b=some o->h'.get? b=some o:=λb o hb e=>(sb.2 b hb).trans e;have e3':=kp a _ n1 e3;refine af (ay ?_);refine af (wpAny_tryCatch (pair_items e3' ?_));dsimp only;refine ay ?_;obtain⟨o,eo,d1⟩:=Heap.dictOf_iff.mp hd;have hd':h'.DictOf knd D (merged [] (kvs.take i)):=Heap.dictOf_iff.mpr ⟨o,kp D o (gz hID) eo,d1⟩;unfold dictSet
  try with_reducible refine ay ?_
  refine af (knd.pyHash e2 ?_);have hlen:(merged [] (kvs.take i)).length<=sizeLine:=fu (merged_length_le _ _) (by simp;lia);refine wpAny_dictSetHashed_pairs (s:={ s with heap:=h',toks:=_ }) e2 hd' (λh2 hd2 sb2=>?_) hlen;have kp2:∀ b o,b≠I->b≠D->h.get? b=some o->h2.get? b=some o:=λb o hb hb2 e=>(sb2.2 b hb2).trans (kp b o hb e);have hcast:rawInt ((i:Int)+1)=rawInt ((i+1:Nat):Int):=rfl;refine aq ⟨plainId_quiet gK _,ih (i+1) h2 _ (by lia) (by lia) ?_ ?_ ?_ ?_ ?_⟩
  ·obtain⟨o,eo,x⟩:=hit'
   exact⟨o,(sb2.2 I hID).trans eo,x⟩
  ·obtain⟨o,eo,x⟩:=hl
   exact⟨o,kp2 L o (gz hIL) hLD eo,x⟩
  ·intro j b hj
   obtain⟨key',kk',x',f1,f2,f3⟩:=ht j b hj;obtain⟨m1,m2⟩:=hI b (g4 hj);exact⟨key',kk',x',f1,f2,kp2 b _ m1 m2 f3⟩
  ·rw[merged_take_succ [] kvs i (kk,x) e1];exact hd2
  ·exactλb o h1 h2 e=>kp2 b o h1 h2 (hkeep b o h1 h2 e)
end
section
variable{K:Type}[DecidableEq K]{knd:KeyKind pw wd K}{A:Around}{E:VS}{s:Sh}{kvs:List (K × Va)}
theorem Cx{L:Ad}{as:List Ad}{acc:Array Va}{n:Nat}{Q:VS}(hh:A.handled=none)(hl:s.heap.get? L=some { cls:=.type "list",dict:=none,data:=.seq acc n,slots:=#[] })(hacc:acc.toList=as.map Value.ref)(hal:as.length=kvs.length)
  (ht:∀(j:Nat) (a:Ad),as[j]?=some a->∃ key kk x,kvs[j]?=some (kk,x)/\knd.is kk key=true/\s.heap.get? a=some { cls:=.type "tuple",data:=.seq #[key,x] }) (hn:kvs.length<=sizeLine) (nd:(kvs.map (·.1)).Nodup)
  (h:∀ h' tk D,gU s.heap h'->s.heap.objs.size<=D->h'.DictOf knd D kvs->Q (.ref D) { s with heap:=h',toks:=tk }):wpAny (model pw wd) A (call (.type "dict") [.ref L]) Q E s:=by
 refine callType_codes (Q₁:=λobj aF=>obj=.ref s.heap.objs.size/\aF={ s with heap:=s.heap.push { cls:=.type "dict",data:=.dict #[] } }) PySem.F.kt_called_dict (PySem.F.kt_typeCall_dict_1 _) PySem.F.entry_dict_init (kt_code_dict_new _ ⟨rfl,rfl⟩) ?_
 rintro obj aF ⟨rfl,rfl⟩
 have hnew:(s.heap.push { cls:=.type "dict",data:=.dict #[] }).DictOf knd s.heap.objs.size []:=Heap.DictOf.new s.heap;have hl':=ek { cls:=.type "dict",data:=.dict #[] } hl;have hLs:L<s.heap.objs.size:=fy hl;refine⟨hnew.typeIs,PySem.F.args_dict_init_2 _ _,?_⟩;unfold Builtin.«dict.__init__»;refine af ?_;unfold Builtin.Dict.selfAndRest;refine af (wpAny_notOrdered_dict hnew.typeIs ?_);show wpAny _ _ (pure (s.heap.objs.size,[Value.ref L])) _ _ _;refine aq ?_;show wpAny _ _ (Builtin.Dict.updateFrom "dict.__init__" s.heap.objs.size (.ref L) [] .none) _ _ _;unfold Builtin.Dict.updateFrom;refine af (wpAny_typeOf (T:="list") ⟨_,hl',rfl⟩ ?_);rw[ai ()];refine af (Fg hl' hh λh' tk hk=>?_);rw[ai (by rfl)];refine af (wpAny_rule ?_);have hl2:=hk _ _ hl';refine af (wpAny_pyIter_list (s:=⟨h',s.gens,s.drawn,tk,s.os⟩) (items:=acc) ⟨_,hl2,rfl,n,rfl⟩ ?_);have hlt:s.heap.objs.size<h'.objs.size:=fy (hk _ _ (fj _ rfl));have haslt:∀ a∈as,a<s.heap.objs.size:=λa ha=>by obtain⟨j,hj⟩:=List.mem_iff_getElem?.mp ha;obtain⟨_,_,_,_,_,e⟩:=ht j a hj;exact fy e
 have kk:∀ b o,s.heap.get? b=some o->(h'.push { cls:=.type "list_iterator",data:=.fields #[.ref L,.int 0 0] }).get? b=some o:=λb o e=>ek _ (hk b o (ek _ e));refine aq ⟨plainId_quiet gK _,?_⟩;refine Kr (A:=A.in1) (s:=s) (knd:=knd) (kvs:=kvs) (as:=as) (L:=L) (I:=h'.objs.size) (D:=s.heap.objs.size) (h₁:=s.heap) hh hn (jr (gy hLs hlt)) (jr hlt) (gq hLs) hal (λa ha=>⟨gq (gy (haslt a ha) hlt),gq (haslt a ha)⟩)
  (λh2 tk2 hk2 hd2=>?_) kvs.length 0 _ _ (Nat.sub_zero _) (j5 _) ?_ ?_ ?_ ?_ ?_
 ·rw[merged_nil_of_nodup kvs nd] at hd2
  exact⟨rfl,h h2 tk2 _ (λb o e=>hk2 b o (gq (gy (fy e) hlt)) (gq (fy e)) e) (f7 _) hd2⟩
 ·exact⟨_,fj _ rfl,rfl,rfl⟩
 ·exact⟨_,kk _ _ hl,rfl,n,by rw[<-hacc]⟩
 ·intro j a hj
  obtain⟨key,k2,x,e1,e2,e3⟩:=ht j a hj;exact⟨key,k2,x,e1,e2,kk _ _ e3⟩
 ·obtain⟨o,eo,d1⟩:=Heap.dictOf_iff.mp hnew
  exact Heap.dictOf_iff.mpr ⟨o,ek _ (hk _ _ eo),d1⟩
 ·exactλb o q q e=>kk b o e
end
section
variable{X:XP}{Q:VQ}{n:Nat}
theorem AW{e o:Expr}(h:vc e=some o):∃ lp apos pos p,e=.Call (.Name "list" lp) [.Call (.Attribute o "items" apos) [] [] pos] [] p/\(apos.endLine==pos.line)=true/\fJ o=false:=aN h λc hc h=>aN h λl hl h=>aN h λm hm h=>aN h λd hd h=>aN h λq hq h=>cL h (λz w=>by simp only[e9,az,i6,List.isEmpty_iff] at z;obtain⟨⟨⟨⟨⟨⟨z1,z2⟩,z3⟩,z4⟩,z5⟩,z6⟩,z7⟩:=z;obtain⟨lp,hl⟩:=iW hl;refine⟨lp,q.2.2,d.2.2.2,c.2.2.2,(qY hc).trans ?_,beq_iff_eq.mpr z6,w▸z7⟩;rw[hl,k8 hm,qY hd,uu hq,z1,z2,z3,z4,z5,w]) bB
theorem uK{g:Str}{gp pos:Pos}{es:List Expr}{v:Va}{Q':VS}(S:St c l P s)(O:bM c)(hv:dQ K c.env.scope.names g=.con v)
  (h:∀ f s',ab f=v->St c l P s'->wpAny (MM wd) c.A (callWith pos f [] (backTo pos (starEach es c.env)) []) Q' (Exc c X) s'):wpAny (MM wd) c.A (eval (.Call (.Name g gp) es [] pos) c.env) Q' (Exc c X) s:=by refine Call_ (bG (mV (n:=0) (X:=X) (Q:=λu P'=>u=v/\P'=P) S O (by rw[hv];exact⟨rfl,rfl⟩)) λf aP aF aH h₁=>?_);obtain⟨e,rfl⟩:=h₁;exact h f aF e aH
set_option tactic.hygienic true in
theorem Gq{f:Nat}(H:dN f):pS f:=by
 intro e o fv pos c l P s X Q n O Rm S hf he hl h;subst hf;obtain⟨lp,apos,ipos,p,rfl,h1,h2⟩:=AW he;have hh:=O.hh;refine cB (G:=λj=>True) rfl tO (g8 ?_);refine uK S O (tN hl) λlv aF hlv aH=>?_;have:=tw hlv;subst this;refine cB (G:=λj=>True) rfl tO (g8 ?_);refine call_meth h2 rfl () h1 (bG (H o c l P aF X _ n O Rm aH h) λov gV cE bU bA=>?_);intro pl;replace bA:bD .iV [ab ov] gV Q:=bA;cases ov<;>first|exact ck bA|skip
 rename_i d;obtain⟨t,kvs,q,bA⟩:=KQ (F:=λkvs=>kvs.length<big/\cG gV (.dict (0,0) kvs) Q) bA;obtain⟨hz,hq⟩:=bA;obtain⟨lo,ob,kvs',g,hd,rfl⟩:=iC bU O q;have hD:=Heap.dictOf_iff.mpr ⟨ob,g,hd⟩;refine dJ PySem.F.slot_dict_items PySem.F.type_dict_items g hd ?_;refine cB (G:=λj=>True) rfl qi (g7 ⟨trivial,?_⟩);refine call_meetsIn PySem.F.slot_dict_items hD.typeIs PySem.F.entry_dict_items (PySem.F.args_dict_items_1 _) (meets_dict_items (strKind pw wd) d lo) ⟨⟨kvs',hD⟩,?_⟩;refine g7 ⟨trivial,?_⟩;obtain⟨es,ep,hc1,hd1,hp1⟩:=id hd;have hlen:kvs'.length<=sizeLine:=dO (by simpa using hz);have k1:gU cE.heap (cE.heap.push { cls:=.type "dict_items",data:=.fields #[.ref d] }):=cN;refine kdx_call (knd:=strKind pw wd) (kvs:=kvs') (ep:=ep) (d:=d) hh ⟨_,fj _ rfl,rfl,rfl⟩ ⟨ob,es,k1 _ _ g,hc1,hd1,hp1⟩ hlen λh' tk acc cc as hk hl' hal hG hacc=>?_;refine g7 ⟨trivial,?_⟩;refine Cx (knd:=strKind pw wd) (kvs:=kvs') hh hl' hacc hal hG.pairs hlen hp1.2.2 λh2 tk2 D hk2 hD2 hd2=>?_;obtain⟨o',e1,e2⟩:=Heap.dictOf_iff.mp hd2;have hk3:gU cE.heap h2:=λb o e=>hk2 b o (hk b o (k1 b o e));have hle:cE.heap.objs.size<=D:=by refine fu ?_ hD2;have z:(cE.heap.push { cls:=.type "dict_items",data:=.fields #[.ref d] }).get? cE.heap.objs.size=some { cls:=.type "dict_items",data:=.fields #[.ref d] }:=fj _ rfl;exact ja (fy (hk _ _ z))
 exact bU.made (t:=tk2) (o:=.dict (0,0) (kvs'.map kP)) hk3 hle e1 rfl (λF d e=>⟨⟨o',kvs',e,e2,rfl⟩,λz=>absurd z ()⟩) hq
end
section
variable{X:XP}{Q:VQ}{n:Nat}
theorem Hs{fd:FuncData}{cs:List (Ad × Va)}(L:Ah fd cs):bindArgs fd ⟨[],[]⟩=pure []:=by unfold bindArgs;rw[L.par,L.VO,L.kwd];rfl
theorem pq{fd:FuncData}{cs:List (Ad × Va)}(L:Ah fd cs):∀ x∈fd.scope.names,x.2≠.cell:=λx hx q=>by rcases L.kinds x hx with h|h<;>rw[h] at q<;>cases q
theorem ve{fd:FuncData}{cs:List (Ad × Va)}(L:Ah fd cs)(x:Str):fd.scope.names.lookup x≠some .cell:=λq=>pq L _ (mem_of_lookup q) rfl
theorem LB{fd:FuncData}{cs:List (Ad × Va)}(L:Ah fd cs):jC fd.scope=false:=by
 unfold jC;rw[List.any_eq_false];intro q hq;have:=pq L q hq
 simpa using this
theorem Ia{a cref:Ad}{k:Nat}{vs:List Va}(H:∀ f,dN f)(S:St c l P s)(O:bM c)(rm:bP (n+1) c.A)(hP:P a=some (.lam k (.ref cref::vs)))(hC:P cref=some (.code k))
  (h:bE n (y9 k) (vs.map some) P X Q):codeAny (MM wd) c.A (.call (.ref a) ⟨[],[]⟩) (Dq c l X Q) s:=by
 obtain⟨m,G,D,S⟩:=S;have T:=S.sat;obtain⟨o,cs,eo,⟨fd,c0,body,f,hd,hvs,hcode,DV,hbody,hcomp,L⟩,o9⟩:=(T.rel a _ hP).2;obtain⟨rfl,rfl⟩:cref=c0/\vs=cs.map (λq=>ab q.2):=by rw[List.cons.injEq] at hvs;exact⟨by have:=hvs.1;obtain rfl:=Value.ref.inj this;rfl,hvs.2⟩
 obtain⟨oc,ovs,t,e1,e2,e3⟩:=(T.rel cref _ hC).2;refine kla_callFunE (gr (gr (gr (Nat.lt_succ_self _) (Nat.add_le_add_left (Nat.le_add_left 1 n) _)) rm.dp) ⋯) eo hd L.co L.gen hbody ⟨cref,oc,ovs,t,hcode,e1,e2,by rw[DV];exact e3⟩ ?_;rw[Hs L];refine aq (wpAny_newFunctionEnv (pq L) (λx hx=>nomatch hx) (λh₁ hns hsb=>⟨((O.top.nolimit).keeps T.stay).fresh _ hsb,?_⟩) L.knd);have hkeep:gU s.heap h₁:=λb o e=>hsb.extBut b o (gq (fy e)) (ek _ e);obtain⟨z1,z2⟩:=T.lt (f7 s.heap.objs.size);obtain⟨f1,f2,f3⟩:=T.fresh z1;let env':Env:=newEnv fd.scope s.heap.objs.size fd.globals fd.closure (fd.qualname++".<locals>.") (some a) fd.code none fd.builtins;show codeAny _ _ (.expr body env') _ _;have hframe:env'.frame=some env'.locals:=rfl;have ltG:∀ a p,G a=some p->a<s.heap.objs.size:=λa p q=>let ⟨_,o,eo,_⟩:=T.hid a p q;fy eo;have hcell:∀ x a,fd.closure.lookup x=some a->∃ q∈cs,q.1=a/\G a=some (eU (some q.2)):=λx a hx=>by obtain⟨q,hq,rfl⟩:=L.T7 x a hx;obtain⟨p,hp,rfl⟩:=o9 q hq;exact⟨q,hq,rfl,hp⟩
 let c':Fx:=⟨env',env',c.A.deeper env',c.base,c.mg,c.mb,c.aZ::c.outer,G,c.os⟩
 have O':bM c':=by
  refine⟨Around.frames_deeper O.hA,O.hh,L.knd,L.qN,L.KA,L.nd,f3,λj y a j q=>absurd q (ve L y),L.inj,by show fd.scope.kind≠_;rw[L.knd];decide,O.X,O.top,O.big,O.st,λe' hm=>?_,λx hx=>absurd hx (ve L x),hframe,λk hk=>absurd hk (L.Ur k),?_,O.HJ⟩
  ·rcases ku hm with rfl|hm
   ·obtain⟨Lf,mf,q1,q2⟩:=S.nU
    exact⟨O.fk,Lf,mf,q1,q2⟩
   ·obtain⟨q0,Li,mi,q1,q2⟩:=O.frs e' hm
    exact⟨q0,Li,mi,q1,S.ext _ _ q2⟩
  ·show c.base.objs.size<=s.heap.objs.size
   obtain⟨_,o,eo,_⟩:=T.hid _ _ S.loc;exact ja (k6 O.Oi (fy eo))
 have S':mj c' ((cs.map λq=>ab q.2).map some) P { s with heap:=h₁,toks:=s.toks+0 } (λx=>([]:List (Str × Va)).reverse.lookup x) (cJ G s.heap.objs.size (dI λx=>([]:List (Str × Va)).reverse.lookup x)) D:=by
  refine⟨λb p q=>?_,aJ ..,⟨_,_,hframe,aJ ..⟩,λy b q=>?_,λb p q=>?_,?_,?_,S.gens,S.os⟩
  ·rw[aE (gq (ltG b p q))];exact q
  ·obtain⟨q',_,_,hg⟩:=hcell y b q
   exact⟨_,by rw[aE (gq (ltG b _ hg))];exact hg⟩
  ·by_cases hb:b=s.heap.objs.size
   ·subst hb;rw[aJ] at q;obtain rfl:=kr q;exact .inr (.inl dY)
   ·rw[aE hb] at q;exact .inl q
  ·refine T.hides (.of_keep T.stay hkeep) (λb p q=>by rw[aE (gq (ltG b p q))];exact q) λb p q=>?_
   by_cases hb:b=s.heap.objs.size
   ·subst hb;rw[aJ] at q;obtain rfl:=kr q;exact .inr ⟨z1,z2,jE hns⟩
   ·rw[aE hb] at q;exact .inl q
  ·intro i v hi
   rw[gj,gj] at hi;cases hq:cs[i]? with
   | none=>rw[hq] at hi;cases hi
   | some q=>rw[hq] at hi;simp only[i7,je] at hi;obtain⟨x,x1,x2⟩:=L.cap i q hq;obtain⟨p,hp,rfl⟩:=o9 q (g4 hq);refine⟨x,.free,x1,.inr ⟨.inr rfl,q.1,q.2,x2,?_,hi⟩⟩;rw[aE (gq (ltG q.1 _ hp))];exact hp
 have U:Sub c' c m:=⟨rfl,rfl,rfl,S.ext,S.loc,S.nU,S.oF,S.own⟩
 have hret:∀ P:PH,ret fd.scope P=P:=λP=>by unfold ret;rw[LB L];rfl
 have Rm':bP n c'.A:=⟨by have:=rm.dp;show c.A.depth+1+n<=990;lia,by have:=rm.un;show c.A.units+3+10*n<=9890;lia⟩
 rw[<-hcomp] at h;refine kla_codeExpr (ak (H f body c' _ P _ X Q n O' Rm' ⟨_,_,D,S'⟩ h) (λv s'' hq=>?_) λev s'' hx=>?_)
 ·obtain⟨P',qM,hQ⟩:=hq
  have:=U.back qM S.lv;rw[show c'.env.scope=fd.scope from rfl,hret] at this;exact⟨_,this,hQ⟩
 ·refine Exc.leave (X:=X) U O' ?_ hframe
  rw[show c'.env.scope=fd.scope from rfl];simp only[hret];exact hx
end
section
variable{X:XP}{N:NP}{R:VQ}{n:Nat}
theorem St.renamed{h':Heap}{m':Str->Op Va}{t:Nat}(S:St c l P s)(O:bM c)(hn:h'.Ns c.env.locals m')(hs:Heap.SameBut c.env.locals s.heap h'):St c [] P { s with heap:=h',toks:=t }:=by
 obtain⟨m,G,D,S⟩:=S;obtain⟨_,o,eo,po⟩:=S.sat.hid _ _ S.loc;obtain⟨o',eo',po'⟩:=jE hn;have kb:∀ b ob,b≠c.env.locals->s.heap.get? b=some ob->h'.get? b=some ob:=λb ob hb e=>(hs.2 b hb).trans e;refine⟨_,cJ G c.env.locals (dI m'),D,λa p e=>?_,aJ ..,?_,λy a e=>?_,λa p e=>?_,?_,lF.nil,S.gens,S.os⟩
 ·rw[aE];exact S.ext a p e
  rintro rfl;rw[O.nF] at e;cases e
 ·obtain⟨Lf,mf,e1,e2⟩:=S.nU
  by_cases q:Lf=c.env.locals
  ·exact⟨Lf,_,e1,by rw[q];exact aJ ..⟩
  ·exact⟨Lf,mf,e1,by rw[aE q];exact e2⟩
 ·obtain⟨u,e⟩:=S.oF y a e
  exact⟨u,by rw[aE (B6 S.sat S.loc e)];exact e⟩
 ·by_cases q:a=c.env.locals
  ·subst q;rw[aJ] at e;obtain rfl:=kr e;exact .inr (.inl dY)
  ·rw[aE q] at e;exact S.own a p e
 ·refine S.sat.zH (.iA S.sat.stay kb (S.sat.hid _ _ S.loc).b) S.loc eo' po' (.inr λoc e u q=>?_)
  rw[eo] at e;obtain rfl:=kr e;exact pA po (some u) q
theorem mj.blank{m:Str->Op Va}{G:HF}{D:Ad->Ad}(S:mj c l P s m G D)(k:Nat):mj c (List.replicate k none) P s m G D:=⟨S.ext,S.loc,S.nU,S.oF,S.own,S.sat,λi v e=>by rw[List.getElem?_replicate] at e;split at e<;>simp at e,S.gens,S.os⟩
theorem J9{x:Str}{i:Nat}{e:Ad}{s0 a1 b1 c1:Str}{k1 k2 k3:Nat}{A:Around}{E:VS}{p1 p2 p3 p4 p5 p6 p7:Pos}{kk:Nat}(I:pP K)(O:bM c)(S:St c (List.replicate (i+1) none) P s)
  (hx:c.env.scope.names[i]?=some (x,.local)) (h1:lX.findIdx? (·==a1)=some k1) (h2:lX.findIdx? (·==b1)=some k2) (h3:lX.findIdx? (·==c1)=some k3)
  (hb:(x==("__debug__":Str))=false) (hc:(x==("__classdict__":Str))=false)
  (h:bE n (.prim .add (.cons (.con (.str s0 0)) (.cons (.attr (.attr (.attr (.loc i) k1) k2) k3) .nil))) ((List.replicate (i+1) none).set i (some (.ref e))) P oM R):
  wpAny (MM wd) A (storeName c.env x (.ref e)) (λj s3=>wpAny (MM wd) A (execs [.Return (some (.BinOp (.Constant (.str s0) kk p1) .Add (.Attribute (.Attribute (.Attribute (.Name x p2) a1 p3) b1 p4) c1 p5) p6)) p7] c.env)
   (λf s4=>∃ v P',f=.ret v/\St c ((List.replicate (i+1) none).set i (some (.ref e))) P' s4/\R (ab v) P') E s3) E s:=by
 refine S.store O hx (.ref e) λs3 S3=>?_;refine wpAny_execs_cons (wpAny_Return_some (wpAny_BinOp (wpAny_Constant_str ?_)));have hat:((List.replicate (i+1) (none:Op Va)).set i (some (.ref e)))[i]?=some (some (.ref e)):=by rw[List.getElem?_set_self (by simp)]
 refine Attribute_any_ (Attribute_any_ (Attribute_any_ ((S3.toks _).load O hx hat hb hc λv' hv=>?_) (tC rfl)) (tC rfl)) (tC rfl);have:=uh hv;subst this;replace h:bE n (.attr (.attr (.attr (.loc i) k1) k2) k3) ((List.replicate (i+1) none).set i (some (.ref e))) P oM (λu P=>bD .add [.str s0 0,u] P R):=h;replace h:bE n (.loc i) ((List.replicate (i+1) none).set i (some (.ref e))) P oM λu P=>match u with
  | .ref a=>iD a k1 P λu P=>(match u with
   | .ref a=>iD a k2 P λu P=>(match u with
    | .ref a=>iD a k3 P (λu P=>bD .add [.str s0 0,u] P R)
    | _=>False)
   | _=>False)
  | _=>False:=h
 have h':iD e k1 P λu P=>(match u with
   | .ref a=>iD a k2 P λu P=>(match u with
    | .ref a=>iD a k3 P (λu P=>bD .add [.str s0 0,u] P R)
    | _=>False)
   | _=>False):=by
  have q:(match ((List.replicate (i+1) (none:Op Va)).set i (some (.ref e)))[i]? with
   | some (some v)=>(match v with
    | .ref a=>iD a k1 P λu P=>(match u with
     | .ref a=>iD a k2 P λu P=>(match u with
      | .ref a=>iD a k3 P (λu P=>bD .add [.str s0 0,u] P R)
      | _=>False)
     | _=>False)
    | _=>False)
   | _=>False):=h
  rw[hat] at q;exact q
 refine ak (mU (a:=.ref e) I (S3.toks _) O (qu h1) h') (λu1 s4 z=>?_) λj j y=>y;obtain⟨P4,S4,z⟩:=z;cases u1<;>first|exact ck z|skip
 refine ak (mU (a:=.ref _) I S4 O (qu h2) z) (λu2 s5 z=>?_) λj j y=>y;obtain⟨P5,S5,z⟩:=z;cases u2<;>first|exact ck z|skip
 refine ak (mU (a:=.ref _) I S5 O (qu h3) z) (λu3 s6 z=>?_) λj j y=>y;obtain⟨P6,S6,z⟩:=z;refine ak (Jv (a:=.str s0 _) S6 z) (λv s7 z=>?_) λj j y=>y;obtain⟨P7,S7,z⟩:=z;exact⟨v,P7,rfl,S7,z⟩
end
theorem Hg{e:Expr}{q:Expr × Expr}(h:M6 e=some q):∃ p,e=.BinOp q.1 .Add q.2 p:=aN h λz h e=>cL e (λw e=>(Hq h).elim λp h=>⟨p,h.trans (by rw[show z.2.1=.Add by revert w;cases z.2.1<;>intro w<;>first|exact gR w|rfl,<-e])⟩) bB
theorem JO{s:Stmt}{a:Expr}(h:NZ s=some a):∃ p,s=.Return (some a) p:=aN h λz h e=>(Mu h).elim λp h=>⟨p,h.trans (aj (λx=>Stmt.Return x p) e)⟩
theorem IB{x:ExceptHandler}{q:Expr × Str × List Stmt}(h:ND x=some q):∃ p,x=.ExceptHandler (some q.1) (some q.2.1) q.2.2 p:=by obtain⟨ty,nm,b,p⟩:=x;obtain⟨t,h1,h2⟩:=dg h;obtain⟨y,h3,h4⟩:=dw h2;exact⟨p,by rw[h1,h3,<-h4]⟩
theorem CA{e:Expr}{s x a b c:Str}(h:yN e=some (s,x,a,b,c)):∃ k p1 p2 p3 p4 p5 p6,e=.BinOp (.Constant (.str s) k p1) .Add (.Attribute (.Attribute (.Attribute (.Name x p2) a p3) b p4) c p5) p6:=aN h λq h1 h=>aN h λs' h2 h=>aN h λc' h3 h=>aN h λb' h4 h=>aN h λa' h5 h=>dK h λx' h6 h=>by have i1:=jb h;have i2:=jb i1.2;have i3:=jb i2.2;have i4:=jb i3.2;obtain⟨p6,h1⟩:=Hg h1;obtain⟨k,p1,h2⟩:=By h2;obtain⟨p5,h3⟩:=pU h3;obtain⟨p4,h4⟩:=pU h4;obtain⟨p3,h5⟩:=pU h5;obtain⟨p2,h6⟩:=iW h6;exact⟨k,p1,p2,p3,p4,p5,p6,h1.trans (by rw[h2,h3,h4,h5,h6,i1.1,i2.1,i3.1,i4.1,i4.2])⟩
theorem Kn{body:List Stmt}{hs:List ExceptHandler}{a ty:Expr}{x s y a1 b1 c1:Str}(h:N3 body hs=some (a,ty,x,s,y,a1,b1,c1)):
  ∃ pa e pr hp,body=[.Expr a pa]/\hs=[.ExceptHandler (some ty) (some x) [.Return (some e) pr] hp]/\yN e=some (s,y,a1,b1,c1):=aN h λst h1 h=>aN h λa' h2 h=>aN h λhd h3 h=>aN h λq h4 h=>aN h λr h5 h=>aN h λe h6 h=>dK h λz he h=>by have i1:=jb h;have i2:=jb i1.2;have i3:=jb i2.2;obtain⟨pa,h2⟩:=E5 h2;obtain⟨hp,h4⟩:=IB h4;obtain⟨pr,h6⟩:=JO h6;exact⟨pa,e,pr,hp,by rw[k8 h1,h2,i1.1],by rw[k8 h3,h4,k8 h5,h6,i2.1,i3.1],he.trans (aj some i3.2)⟩
set_option tactic.hygienic true in
theorem AU{a:Ad}{t:T}(h:isRef a t=true):t=.con (.ref a):=by
 cases t<;>first|cases h|skip
 rename_i v;cases v<;>first|cases h|skip
 rw[beq_iff_eq.mp h]
section
variable{X:XP}{N:NP}{R:VQ}{n:Nat}
theorem Fb{ns:NS}{x:Str}{p:Pos}{i:Nat}(h:idxOf K ns (.Name x p)=some i):(x==("__debug__":Str))=false/\(x==("__classdict__":Str))=false:=
 have h:(D8 (dQ K ns x)).bind (λi=>if Pj ns[i]? then some i else none)=some i:=h
 aN h λj h _=>Bool.or_eq_false_iff.mp (Bool.eq_false_iff.mpr λhx=>by have e:dQ K ns x=.bad:=ai hx;rw[e] at h;exact bB h)
theorem E9{A:Around}{E:VS}{env:Env}{e:Ad}{t:Expr}{nm:Str}{Q5:Stmt}{pos:Pos}{Q:Flow->Sh->Prop}
  (h:wpAny (model pw wd) (A.mark (some (.ref e))) (eval t env) (λc aF=>c=.ref 785/\fH aF.heap/\(∃ oe,aF.heap.get? e=some oe/\oe.cls=.ref 785)/\wpAny (model pw wd) (A.mark (some (.ref e))) (setFlight (.ref e) none) (λ_ cE=>
     wpAny (model pw wd) (A.mark (some (.ref e))) (storeName env nm (.ref e)) (λ_ jH=>
      wpAny (model pw wd) (A.mark (some (.ref e))) (execs [Q5] env)
       (λf zO=>wpAny (model pw wd) A (do bindName env nm .none;unbindBehindTheSuite env nm pos) (λ_ GH=>Q f GH) E zO)
       (λj j=>False) jH) (λj j=>False) cE) (λj j=>False) aF) (λj j=>False) s):
  wpAny (model pw wd) A (handleBy (.ref e) env [.ExceptHandler (some t) (some nm) [Q5] pos]) Q E s:=by refine wpAny_handleBy_cons (codeAny_handlers_test (ak h (λc aF h₁=>?_) λj j y=>ck y)) (by intro q;cases q);obtain⟨rfl,hC,⟨oe,he,hcls⟩,hk⟩:=h₁;have hC:aF.heap.get? 785=some KC:=hC;obtain⟨hh,g,d,tk,os⟩:=aF;refine wpAny_excMatches_sub_self hC he hcls () (codeAny_handlers_suite_as (ak hk (λj j z=>ak z (λj j z=>ak z (λf j z=>z) λj j y=>ck y) λj j y=>ck y) λj j y=>ck y))
theorem Jf{A:Around}{E:VS}{Q:VS}{x:Str}{pos:Pos}{u:Va}(S:St c l P s)(O:bM c)(h:dQ K c.env.scope.names x=.con u)(hq:∀ v,ab v=u->Q v s):wpAny (MM wd) A (eval (.Name x pos) c.env) Q E s:=by
 have N:=vE c.env.scope.names x;rw[h] at N;cases N with
 | con i v hi hv hx=>exact J2 S O hi hv hx.1 (hq v rfl)
theorem IX{vn Bb:Lv}{i:Nat}{Q:VQ}(q:vn[i]?=Bb[i]?)(h:bE n (.loc i) vn P X Q):bE n (.loc i) Bb P X Q:=by
 replace h:(match vn[i]? with
  | some (some v)=>Q v P
  | _=>False):=h
 show(match Bb[i]? with
  | some (some v)=>Q v P
  | _=>False)
 rw[<-q];exact h
theorem GI{vn Bb:Lv}{i k1 k2 k3:Nat}{s0:Str}(q:vn[i]?=Bb[i]?)
  (h:bE n (.prim .add (.cons (.con (.str s0 0)) (.cons (.attr (.attr (.attr (.loc i) k1) k2) k3) .nil))) vn P oM R):
  bE n (.prim .add (.cons (.con (.str s0 0)) (.cons (.attr (.attr (.attr (.loc i) k1) k2) k3) .nil))) Bb P oM R:=
 IX (X:=oM) (n:=n) (Q:=λu P=>match u with
  | .ref a=>iD a k1 P λu P=>(match u with
   | .ref a=>iD a k2 P λu P=>(match u with
    | .ref a=>iD a k3 P (λu P=>bD .add [.str s0 0,u] P R)
    | _=>False)
   | _=>False)
  | _=>False) q h
set_option tactic.hygienic true in
theorem MK(H:dN 30)(I:pP K)(O:bM c)(Rm:bP n c.A)(S:St c l P s)(he:c.aZ=c.env){a:Expr}{x s0 a1 b1 c1 g:Str}{pa pr hp p1 p2 p3 p4 p5 p6 gp pos:Pos}{kk i k1 k2 k3:Nat}(hl:yW a=false)(hr:aC K 30 c.env.scope.names (.Name g gp)=.con (.ref 785))(hb:(x==("__debug__":Str))=false)(hc:(x==("__classdict__":Str))=false)
  (hx:c.env.scope.names[i]?=some (x,.local)) (h1:lX.findIdx? (·==a1)=some k1) (h2:lX.findIdx? (·==b1)=some k2) (h3:lX.findIdx? (·==c1)=some k3)
  (h:wpS n (aK c.env.scope.names) (.Dc (aC K 30 c.env.scope.names a) i s0 k1 k2 k3) l P X N R):bN c X N R (.Try [.Expr a pa] [.ExceptHandler (some (.Name g gp)) (some x) [.Return (some (.BinOp (.Constant (.str s0) kk p1) .Add (.Attribute (.Attribute (.Attribute (.Name x p2) a1 p3) b1 p4) c1 p5) p6)) pr] hp] [] [] pos) s:=by
 have hf:c.env.frame=some c.env.locals:=by rw[<-he];exact O.fl
 refine wpAny_Try_except (wpAny_execs_cons (ak (Ez (N:=λl P=>N l P) (R:=λj j=>False) H O Rm S (xW O) hl h) (λf aF z=>?_) λev aF z=>?_))
 ·cases f with
  | next=>exact bq (bq z)
  | ret v=>obtain⟨_,_,_,z⟩:=z;exact ck z
  | brk=>exact ck z
  | cont=>exact ck z
 ·obtain⟨e,aP,m,G,D,B,fl,rfl,hfl,SE,⟨fs,hPe⟩,hil,hw⟩:=z
  have hA:c.A.frames=some (c.env::c.outer):=by rw[<-he];exact O.hA
  have key:∀ bA,EG B (c.aZ::c.outer) e (rawInt c.env.locals) bA->ED e aF.heap bA->wpAny (MM wd) c.A (setFlight (.ref e) none) (λ_ jH=>wpAny (MM wd) c.A (handleBy (.ref e) c.env [.ExceptHandler (some (.Name g gp)) (some x) [.Return (some (.BinOp (.Constant (.str s0) kk p1) .Add (.Attribute (.Attribute (.Attribute (.Name x p2) a1 p3) b1 p4) c1 p5) p6)) pr] hp]) (Fl c N R) (Exc c X) jH) (Exc c X) { aF with heap:=bA }:=λbA F ch=>by
   refine lu (f:=none) F λbY F' ch'=>E9 ?_;have dX:=(SE.move O F ch).move O F' ch';have SS:St c (List.replicate (i+1) none) aP { aF with heap:=bY }:=⟨m,G,D,dX.st.blank _⟩
   obtain⟨oe4,ee4,hc4⟩:∃ oe,bY.get? e=some oe/\oe.cls=.ref 785:=by obtain⟨vs4,sl4,e4,_⟩:=(dX.st.sat.rel e _ hPe).2;exact⟨_,e4,rfl⟩
   refine Jf SS O hr λcv hcv=>?_;have:=uh hcv;subst this;refine⟨rfl,I.ex.at_ (SS.CK O),⟨_,ee4,hc4⟩,?_⟩;refine lu (f:=none) F' λsN F'' ch''=>?_;have lM:=dX.move O F'' ch'';refine ak (J9 (n:=n) (R:=R) I O ⟨m,G,D,lM.st.blank _⟩ hx h1 h2 h3 hb hc (GI ?_ hw)) (λ_ GH z=>ak z (λf SV z=>?_) λj j y=>y) λj j y=>y
   ·rw[List.getElem?_set_self hil,List.getElem?_set_self (by simp)]
   ·obtain⟨v,P',rfl,EJ,z⟩:=z
    obtain⟨m6,G6,D6,S6⟩:=id EJ;obtain⟨_,o6,eo6,po6⟩:=S6.sat.hid _ _ S6.loc;exact wpAny_nameGoes (aT O.nd hx) (po6.ns eo6) (by rw[O.knd];rfl) λh' m' hn hs=>⟨[],P',EJ.renamed O hn hs,z⟩
  rcases hfl with rfl|⟨Lf,q,rfl⟩
  ·exact rH hA hf (he▸SE.BY) λbA F ch=>key bA (he.symm▸F) ch
  ·rw[he,hf] at q;obtain rfl:=kr q
   exact rG hf SE.BY (key aF.heap SE.BY ⟨λb o q hn=>⟨o.slots,q⟩,λoe vs q hd=>⟨vs,by rw[q,<-hd]⟩⟩)
theorem Ql(H:dN 30)(I:pP K)(O:bM c)(Rm:bP n c.A)(S:St c l P s)(he:c.aZ=c.env){body:List Stmt}{hs:List ExceptHandler}{pos:Pos}
  (h:wpS n (aK c.env.scope.names) (yK K c.env.scope.names body hs) l P X N R):bN c X N R (.Try body hs [] [] pos) s:=by
 refine cY h λq ht h=>?_;obtain⟨hc,h⟩:=Kv h;refine cY h λi hi h=>?_;obtain⟨hk,h⟩:=Kv h;refine cY h λk1 h1 h=>cY h λk2 h2 h=>cY h λk3 h3 h=>?_;simp only[e9,az,i6] at hc;obtain⟨pa,e0,pr,hp,e1,e2,hte⟩:=Kn ht;obtain⟨kk,p1,p2,p3,p4,p5,p6,e3⟩:=CA hte;obtain⟨g,hg⟩:=cz hc.1.2;obtain⟨gp,hg⟩:=iW hg;have hb:=Fb hi
 have hx:c.env.scope.names[i]?=some (q.2.2.1,.local):=by
  rcases u7 hi with z|z
  ·exact z
  ·rw[z] at hk;exact gR hk
 have hr:=AU hc.1.1.2;rw[e1,e2,e3,<-hc.1.1.1,hg];exact MK H I O Rm S he hc.2 (hg▸hr) hb.1 hb.2 hx h1 h2 h3 h
end
section
variable{X:XP}{Q:VQ}{n:Nat}
theorem lI(I:pP K):∀ f,dN f/\sG f:=by
 intro rr;induction rr with
 | zero=>exact⟨λq q q q q q q q q q q h=>ck h,λq q q q q q q q q q q q h=>ck h⟩
 | succ f ih=>exact
  let ih:=ih;let e:=Gl ih.1 ih.2 I ⟨Gq ih.1,λ_ _ _ _ ⟨fd,_,_,_,hd,_⟩=>⟨fd,hd⟩,Qg ih.1 ih.2,MG,J0 ih.1⟩
  ⟨e,Gm e ih.1 ih.2⟩
theorem MC(I:pP K):yu where
 NI:=λq q q q q q q q q q q q q O Rm S he q hsw hi h=>J4 (f:=29) rfl (lI I 29).1 (lI I 29).2 O Rm S he hsw hi h
 iI:=λq q q q q q q q q q q q q q O Rm S he hi hb h=>C5 (lI I 30).1 O he Rm S hi hb h
 mR:=λq q q q q q q q q q q q q q q q q q q q q q q O Rm S q h1 h2 hs h=>J7 (lI I 30).1 I O Rm S h1 h2 hs h
 mT:=λq q q q q q q q q q q q q q q q q q q q q O Rm S q hs h=>Gz (lI I 30).1 O Rm S hs h
 sr:=λq q q q q q q q q q q q q q q q q q q q q q q O Rm S he hi hj hg hb h=>J5 (lI I 30).1 O Rm S he hi hj hg hb h
 qp:=λq q q q q q q q q q q q q q q q q q O Rm S he hi hg hb h=>J6 (lI I 30).1 O Rm S he hi hg hb h
 Dc:=λq q q q q q q q q q q O Rm S he h=>Ql (lI I 30).1 I O Rm S he h
theorem yj(I:pP K)(f:Nat)(body:List Stmt)(c:Fx)(X:XP)(n:Nat)(he:c.aZ=c.env)(Rm:bP n c.A):Kz n c X (jK K f c.env.scope.names body) body:=Gu (lI I 30).1 (lI I 30).2 I (MC I) f body c X n he Rm
theorem Cm{f:Ad}{fd:FuncData}{body:List Stmt}{u:U}{vs:List Va}{l0:Lv}(I:pP K)(fn:Ag K f fd body)
  (hbind:∀(s:Sh) (args:List Va),K.In s.heap->args.map ab=vs->∃ binds,BindsTo s fd ⟨args,[]⟩ binds/\oU fd.scope binds/\fR fd.scope binds=l0)
  (hc:jK K 50 fd.scope.names body=u)
  (h:wpS n (aK fd.scope.names) u l0 P (λe P=>X e (ret fd.scope P)) (λq P=>Q .none (ret fd.scope P)) (λv P=>Q v (ret fd.scope P))):Calls (n+1) f vs P X Q:=by
 intro c l s args O Rm S hv;obtain⟨binds,h1,h2,h3⟩:=hbind s args (S.CK O) hv;refine enter S O Rm fn h1 h2 λc' s' O' Rm' hs he S'=>?_;have B:=yj I 50 body c' (λe P=>X e (ret fd.scope P)) n he Rm';rw[h3] at S';rw[show c'.env.scope.names=fd.scope.names from by rw[hs],hc] at B;refine ak (B c' l0 P s' _ _ rfl rfl rfl O' S' (by rw[hs];exact h)) (λfl aF h₁=>?_) λq q x=>x;cases fl with
 | next=>(obtain⟨l1,P1,S1,q1⟩:=h₁;exact⟨l1,P1,S1,q1⟩)
 | ret v=>(obtain⟨l1,P1,S1,q1⟩:=h₁;exact⟨l1,P1,S1,q1⟩)
 | brk=>exact ck h₁
 | cont=>exact ck h₁
end
variable{M:Model}{env:Env}
theorem JN{s:Sh}{x:Sem Va}{Q:Flow->Sh->Prop}(hh:A.handled=none)
  (h:wpAny M A x (λv aF=>∃ e t d,v=.ref e/\fH aF.heap/\aF.heap.get? e=some (⟨.ref 785,some d,fK t,#[]⟩:Obj)/\E (.ref e) aF) E s):
  wpAny M A (raiseStmt env (some x) none) Q E s:=by
 have hcB:(Value.ref 785::kX).contains (.type "BaseException")=true:=by decide
 unfold raiseStmt;refine af (ak h (λv aF h₁=>?_) λq q x=>x);obtain⟨e,t,dd,rfl,hC,he,hE⟩:=h₁;have hC:aF.heap.get? 785=some KC:=hC;obtain⟨hp,g,d,tk,os⟩:=aF;unfold fK at he
 repeat (first|with_reducible refine bh he ?_|with_reducible refine bh hC ?_|(with_reducible refine b8 hC ?_;rw[hcB])|wp_step)
 exact wpAny_raiseNew_none hh hE
theorem Fe{M:Model}(h:Heap)(hC:fH h):∃ k,(k=Keeper.frame\/k=Keeper.machine\/k=Keeper.boundFrame)/\Looks M h (keeperOf (.ref 785)) k:=⟨.machine,.inr (.inl rfl),λA Q E s kp hq=>by have hC:s.heap.get? 785=some KC:=hC.keeps kp;obtain⟨hp,g,d,tk,os⟩:=s;exact wpAny_keeperOf_exc hC hq⟩
section
variable{c':Fx}{X:XP}{Q:VQ}{n:Nat}
theorem wU{h:Heap}{G:HF}{as:List Ad}(T:∀ a p,G a=some p->∃ o,h.get? a=some o/\p o):∀{l:List Env},(∀ e∈l,e.scope.kind≠.module/\∃ Li m,e.frame=some Li/\G Li=some (dI m))->(∀ e∈l,∀ a,e.frame=some a->a∈as)->h.FunFrames (hideAll h as) l:=by
 intro rr;induction rr with
 | nil=>exactλq q=>trivial
 | cons e r ih=>intro h1 h2;obtain⟨k,Li,m,hf,hg⟩:=h1 e (.head _);obtain⟨o,eo,po⟩:=T _ _ hg;exact⟨k,⟨Li,o,hf,hideAll_none _ (h2 e (.head _) Li hf),eo,gI po⟩,ih (λe he=>h1 e (.tail _ he)) λe he=>h2 e (.tail _ he)⟩
theorem CL{m:Str->Op Va}{e:Ad}{fs:List (Nat × Va)}(U:Sub c' c m)(O:bM c')(hf:c'.aZ.frame=some c'.env.locals)(S:St c' l P s)(hP:P e=some (.kF 785 fs))(hX:X e (ret c'.env.scope (upd P e (.exc 785 fs))))(E:VS):
  wpAny (MM wd) c'.A («leaving» c'.aZ (.ref e)) (λj s'=>Exc c X (.ref e) s') E s:=by
 obtain⟨m',G,D,S⟩:=S;obtain⟨hb,t,he,es,k,hd,hr⟩:=S.sat.rel e _ hP;have T:=S.sat.JT (h':=s.heap) (o':=.exc 785 fs) (.iA S.sat.stay (λb o j q=>q) (S.sat.dle e _ hP rfl)) hP rfl ⟨_,_,he,es,k,hd,hr⟩ rfl;have aH:mj c' l (upd P e (.exc 785 fs)) s m' G D:=S.moved T rfl rfl;have Iq:=uR O S
 have nb:∀ b o,c'.base.get? b=some o->b∉e::fL (c'.aZ::c'.outer):=λb o q hm=>by
  rcases ku hm with rfl|hm
  ·rw[hb] at q;cases q
  ·obtain⟨mm,z⟩:=Iq b hm
   rw[(S.sat.hid _ _ z).b] at q;cases q
 have hbb:c'.base.StaysIn (hideAll s.heap (e::fL (c'.aZ::c'.outer))):=λb o q=>br _ (S.sat.stay b o q) (nb b o q)
 have ff:s.heap.FunFrames (hideAll s.heap (e::fL (c'.aZ::c'.outer))) (c'.aZ::c'.outer):=by
  refine wU (G:=G) (λa p q=>(S.sat.hid a p q).ex) (λenv hm=>?_) λenv hm a ha=>.tail _ (List.mem_filterMap.mpr ⟨env,hm,ha⟩);rcases ku hm with rfl|hm
  ·obtain⟨Lf,mf,q1,q2⟩:=S.nU
   exact⟨O.fk,Lf,mf,q1,q2⟩
  ·obtain⟨q0,Li,mm,q1,q2⟩:=O.frs env hm
   exact⟨q0,Li,mm,q1,S.ext _ _ q2⟩
 refine A8 (L:=c'.env.locals) (B:=hideAll s.heap (e::fL (c'.aZ::c'.outer))) (l:=c'.aZ::c'.outer) ?_;refine CR O.hA ff hf he (λb o q=>of_hideAll _ q) (hideAll_none _ (.head _)) rfl rfl λh' F ch=>⟨F,λh'' F' ch'=>?_⟩
 have KN:B5 c' (upd P e (.exc 785 fs)) e _ { s with heap:=h' } m' G D _:=B5.first O aH hbb ⟨785,fs,aA ..⟩ (λa o ho hae hfr j=>br _ ho λhm=>by
  rcases ku hm with q|q
  ·exact hae q
  ·exact hfr q) F ch
 have TJ:=KN.move O F' ch';exact⟨e,_,m,c'.F,D,_,.none,rfl,.inl rfl,TJ.leave U O hf,hX⟩
noncomputable def Sq(X:XP):Nat->VQ
 | 0=>λq q=>False
 | k+1=>λv P=>∀ e,P e=none->Calls k 782 [.ref e,v] (upd P e (.raw 785)) X λu P=>u=.none/\∃ fs,P e=some (.kF 785 fs)/\X e (upd P e (.exc 785 fs))
theorem Mt{cs:List Bool}{t:T}{N:NP}{R:VQ}:wpS n cs (.FZ t) l P X N R=bE n t l P X (Sq X n):=by cases n<;>rfl
theorem Az{f:Ad}{fd:FuncData}{ex:Expr}{pos:Pos}{t:T}{vs:List Va}{l0:Lv}(I:pP K)(fn:Ag K f fd [.Raise (some ex) none pos])
  (hbind:∀(s:Sh) (args:List Va),K.In s.heap->args.map ab=vs->∃ binds,BindsTo s fd ⟨args,[]⟩ binds/\oU fd.scope binds/\fR fd.scope binds=l0)
  (hc:rt K fd.scope.names (some ex) none=.FZ t)
  (h:wpS n (aK fd.scope.names) (.FZ t) l0 P (λe P=>X e (ret fd.scope P)) (λq q=>False) (λq q=>False)):Calls (n+1) f vs P X Q:=by
 intro c l s args O Rm S hv;obtain⟨binds,h1,h2,h3⟩:=hbind s args (S.CK O) hv;refine H8 S O Rm fn h1 h2 λc' m s' O' Rm' hs he U hf S'=>?_;rw[h3] at S';unfold rt at hc;dsimp only at hc;cases hcall:nB K (isRef 785) fd.scope.names ex with
 | none=>rw[hcall] at hc;cases hc
 | some a=>
  rw[hcall] at hc;cases hc;obtain⟨g,gp,cp,rfl,hg⟩:=oZ hcall;have hg:=AU hg;rw[Mt] at h;have hsa:[a].any isStar=false:=by cases a<;>first|rfl|exact ck h
  have toL:∀ ev s'',Exc c' (λe P=>X e (ret fd.scope P)) ev s''->∀ E,wpAny (MM wd) c'.A («leaving» c'.aZ ev) (λq s'=>Exc c X ev s') E s'':=λev s'' hx E=>by refine Exc.leave (X:=X) U O' ?_ hf;rw[hs];exact hx
  refine wpAny_execs_cons ?_;rw[arm_exec_Raise];show wpAny _ _ (do standAt pos;raiseStmt c'.env (some (do let v<-eval (.Call (.Name g gp) [a] [] cp) c'.env;standAt pos;pure v)) none) _ _ _;refine af (b9 (JN O'.hh (af (ak (Q:=λv aF=>∃ e t d,v=.ref e/\fH aF.heap/\aF.heap.get? e=some (⟨.ref 785,some d,fK t,#[]⟩:Obj)/\∀ E,wpAny (MM wd) c'.A («leaving» c'.aZ (.ref e)) (λq s'=>Exc c X (.ref e) s') E aF)
   (E:=Exc c' (λe P=>X e (ret fd.scope P))) (uK S' O' (by rw[hs];exact hg) λfv aF hfv aH=>?_) (λv aF h₁=>af (b9 (aq h₁))) toL))))
  have:=uh hfv;subst this;refine cB (G:=fH) hsa (λh hC=>Fe h hC) (g8 (ak ((lI I 30).1 a c' _ P aF _ _ n O' Rm' aH (by rw[hs];exact h)) (λv cE bA=>?_) λq q x=>x));obtain⟨gV,bU,bA⟩:=bA;have hC:=I.ex.at_ (bU.CK O');refine g7 ⟨hC,?_⟩;cases n with
  | zero=>exact ck bA
  | succ k=>
   have XK:=bU.CK O';obtain⟨hh,gg,dd,tk,os⟩:=cE;have bY:∀ e,gV e=none->Calls k 782 [.ref e,ab v] (upd gV e (.raw 785)) (λe P=>X e (ret fd.scope P)) λu P=>u=.none/\∃ fs,P e=some (.kF 785 fs)/\X e (ret fd.scope (upd P e (.exc 785 fs))):=bA;refine K7 XK I.ex.xi I.ex.xf hC (by size_fits) λh' kp hz hget=>?_;obtain⟨hn,dX⟩:=bU.alloc (s':=⟨h',gg,dd,tk,os⟩) (a:=hh.objs.size+1) (o:=.raw 785) kp ⟨by show hh.objs.size<=h'.objs.size;lia,rfl,rfl⟩ (ki _) rfl λF d=>⟨_,hget⟩
   refine wpAny_call (codeAny_mono (bY _ hn { c' with A:=c'.A.under (.builtin "type.__call__" ⟨[.ref 785,v],[]⟩) } _ _ [.ref (hh.objs.size+1),v] O'.under Rm'.under (dX.ctx rfl rfl rfl rfl rfl) rfl) λr zO hr=>?_);rcases r with ev|fl
   ·exact Exc.ctx (c:={ c' with A:=c'.A.under (.builtin "type.__call__" ⟨[.ref 785,v],[]⟩) }) hr rfl rfl rfl rfl rfl rfl
   ·cases fl<;>first|(exact ck hr)|skip
    obtain⟨Oe,lM,hv4,fs,hP,hX⟩:=hr;have lM:=lM.ctx (c':=c') rfl rfl rfl rfl rfl;refine⟨Dv hv4,hh.objs.size+1,?_⟩;obtain⟨m4,G4,D4,T4⟩:=id lM;obtain⟨_,t4,he4,_⟩:=T4.sat.rel _ _ hP;exact⟨t4,D4 _,rfl,I.ex.at_ (lM.CK O'),he4,CL U O' hf lM hP (by rw[hs];exact hX)⟩
theorem iT{a cref:Ad}{k:Nat}{vs:List Va}(I:pP K)(hP:P a=some (.lam k (.ref cref::vs)))(hC:P cref=some (.code k))(h:bE n (y9 k) (vs.map some) P X Q):Calls (n+1) a [] P X Q:=by
 intro c l s args O Rm S hv;cases args with
 | cons _ _=>cases hv
 | nil=>exact Ia (λf=>(lI I f).1) S O Rm hP hC h
end
theorem O4(P:Params):CC (Kf P)=true:=by kernel_rfl
theorem O6(P:Params):CP (Kf P)=true:=by kernel_rfl
theorem O5(P:Params):yU (Kf P)=true:=by kernel_rfl
theorem O2(P:Params):(yv.all λa=>u9 (Kf P) a)=true:=by kernel_rfl
theorem O3(P:Params):(Kf P).lookup 785=some (excClassObj "Raised" "Raised" 785 784 [.ref 765] kX true [] [] false none none (some (.ref 769)) none (some (.str "Raised" 1328)) (some (.str "Raised" 1336)) (some (.bool true)) "ValueError.__new__"):=by kernel_rfl
theorem RI(P:Params):QK (Kf P) where
 exc:=.of (by kernel_rfl)
 cls:=O3 P
 xi:=by kernel_rfl
 xf:=by kernel_rfl
 U4:=.of (by kernel_rfl)
theorem ql(P:Params):pP (Kf P):=.of (O4 P) (O6 P) (O5 P) (O2 P) (RI P)
section
section
local macro_rules
 | `([])=>`(TL.nil)
 | `([$a])=>`(TL.cons $a TL.nil)
 | `([$a,$x,*])=>`(TL.cons $a [$x,*])
local macro_rules
 | `(⟨$a⟩)=>`(U.seq $a U.skip)
 | `(⟨$a,$x,*⟩)=>`(U.seq $a ⟨$x,*⟩)
local macro_rules
 | `(($n:num))=>`(T.loc $n)
 | `(($s:str))=>`(T.con (Value.str $s 0))
noncomputable def zT:U:=⟨.bI (0) 0 (1),.bI (0) 1 (2),.bI (0) 2 (.prim .iM []),.bI (0) 3 (.con .none),.bI (0) 4 (.con (.bool false)),.bI (0) 5 (.con .none)⟩
noncomputable def BC:U:=⟨.expr (.call 37 [(0),(1),(2)]),.bI (0) 17 (3)⟩
noncomputable def rT:U:=⟨.expr (.call 37 [(0),(1),(2)]),.bI (0) 18 (.bF (.prim .is [(3),.con .none]) (.prim .list []) (3))⟩
noncomputable def qF:U:=⟨.expr (.call 37 [(0),(1),(2)]),.bI (0) 19 (3),.bI (0) 20 (.con .none)⟩
noncomputable def eB:U:=⟨.expr (.call 37 [(0),(1),(2)]),.bI (0) 6 (3),.bI (0) 7 (4),.bI (0) 8 (5),.bI (0) 9 (6),.bI (0) 10 (.prim .iM []),.bI (0) 11 (.prim .iM []),.bI (0) 12 (.prim .list []),.bI (0) 13 (.prim .list []),.bI (0) 14 (.con .none),.bI (0) 15 (.con .none),.bI (0) 16 (.con .none)⟩
noncomputable def mY:U:=⟨.ret (.prim .dU [.attr (0) 14,.con .none])⟩
noncomputable def zS:U:=⟨.bI (0) 6 (1),.bI (0) 1 (2),.bI (0) 21 (3),.bI (0) 22 (4),.bI (0) 23 (5),.bI (0) 24 (6),.bI (0) 25 (.prim .tup []),.bI (0) 26 (.con .none)⟩
noncomputable def fO:U:=⟨.dR 4 (.make 256 [(1),(2),.attr (0) 21,.attr (0) 22,.attr (0) 23,.bF (.prim .is [(3),.con .none]) (.attr (0) 24) (3)]),.bI (4) 25 (.attr (0) 25),.bI (4) 26 (.attr (0) 26),.ret (4)⟩
noncomputable def MW:U:=⟨.bF (.prim (.jM "bool") [(0)]) ⟨.ret (0)⟩ .skip,.ret (.prim .dU [(0),.con .none])⟩
noncomputable def GP:U:=⟨.bF (.prim .is [(0),.con .none]) ⟨.ret ("nil")⟩ .skip,.bF (.prim (.jM "bool") [(0)]) ⟨.ret ("bool")⟩ .skip,.bF (.prim (.jM "int") [(0)]) ⟨.ret ("int")⟩ .skip,.ret (.bF (.prim (.jM "str") [(0)]) ("sym") ("thing"))⟩
noncomputable def Qs:U:=⟨.dR 2 (.call 274 [(0)]),.bF (.prim .ne [(2),.call 274 [(1)]]) ⟨.ret (.con (.bool false))⟩ .skip,.ret (.bF (.prim .eq [(2),("thing")]) (.prim .eq [.attr (0) 0,.attr (1) 0]) (.prim .eq [(0),(1)]))⟩
noncomputable def BG:U:=⟨.bF (.prim .dU [.attr (0) 14,.con .none]) ⟨.ret (.prim .add [.prim .add [("#<Class:"),.call 368 [.attr (0) 14]],(">")])⟩ .skip,.bF (.prim .is [.attr (0) 6,.con .none]) ⟨.ret (.bF (.attr (0) 7) ("#<Class>") ("#<Module>"))⟩ .skip,.bF (.prim .is [.attr (0) 9,.con .none]) ⟨.ret (.attr (0) 6)⟩ .skip,.ret (.prim .add [.prim .add [.call 315 [.attr (0) 9],("::")],.attr (0) 6])⟩
noncomputable def GL:U:=⟨.bF (.prim (.jM "str") [(1)]) ⟨.ret (1)⟩ .skip,.bF (.prim (.bZ 62) [(1)]) ⟨.ret (.attr (1) 17)⟩ .skip,.ret (.aS (0) 20 [("TypeError"),.prim .add [.call 368 [(1)],(" is not a symbol nor a string")]])⟩
noncomputable def BI:U:=⟨.bF (.or (.prim .eq [(0),("")]) (.prim .oN [.prim .item [(0),.con (.int 0 0)],(1)])) ⟨.ret (.con (.bool false))⟩ .skip,.loop 2 (.prim .AO [(0)]) ⟨.bF .bad ⟨.ret (.con (.bool false))⟩ .skip⟩,.ret (.con (.bool true))⟩
noncomputable def sV:U:=⟨.bF (.not (.call 382 [(1),.bm .upper ("abcdefghijklmnopqrstuvwxyz") []])) ⟨.expr (.aS (0) 20 [("NameError"),.prim .add [("wrong constant name "),(1)]])⟩ .skip,.ret (1)⟩
noncomputable def zZ:U:=⟨.bF (.or (.not (.prim (.bZ 228) [(1)])) (.attr (1) 7)) ⟨.expr (.aS (0) 20 [("TypeError"),.prim .add [.prim .add [("wrong argument type "),.call 315 [.aS (0) 1 [(1)]]],(" (expected Module)")]])⟩ .skip⟩
noncomputable def BF:U:=⟨.bI (1) 2 (.prim .o5 [.attr (0) 2]),.bF (.prim (.bZ 62) [(0)]) ⟨.bI (1) 17 (.attr (0) 17)⟩ ⟨.bF (.prim (.bZ 82) [(0)]) ⟨.bI (1) 18 (.prim .jD [.attr (0) 18])⟩ ⟨.bF (.prim (.bZ 120) [(0)]) ⟨.bI (1) 44 (.prim .o5 [.lc (none::none::none::(some 0)::.nil) 1 (.attr (0) 44) (.prim .tup [(1),.prim .jD [.prim .item [.attr (3) 44,(1)]]]) (.con (.bool true))]),.bI (1) 45 (.attr (0) 45)⟩ ⟨.bF (.prim (.bZ 140) [(0)]) ⟨.bad⟩ ⟨.bF (.prim (.bZ 181) [(0)]) ⟨.mR (1) 19 (1) 20 (.attr (0) 19) (.attr (0) 20)⟩ ⟨.bF (.prim (.bZ 161) [(0)]) ⟨.expr (.call 415 [(0),(1)])⟩ ⟨.bF (.prim (.bZ 228) [(0)]) ⟨.expr (.call 422 [(0),(1)])⟩ .skip⟩⟩⟩⟩⟩⟩⟩
noncomputable def kC:U:=⟨.mR (1) 7 (1) 8 (.attr (0) 7) (.attr (0) 8),.bF (.not (.aS (0) 5 [])) ⟨.bI (1) 15 (.attr (0) 15)⟩ .skip,.loop 2 (.attr (0) 10) ⟨.dR 3 (.prim .item [.attr (0) 10,(2)]),.fG (.attr (1) 10) (2) (.aS (3) 21 [.attr (3) 6,(1)])⟩,.bI (1) 11 (.prim .o5 [.attr (0) 11]),.mR (1) 12 (1) 13 (.prim .jD [.attr (0) 12]) (.prim .jD [.attr (0) 13])⟩
noncomputable def GJ:U:=⟨.bF (.not (.prim (.bZ 40) [(1)])) ⟨.ret (1)⟩ .skip,.bF (.prim (.bZ 201) [(1)]) ⟨.ret (.aS (0) 20 [("TypeError"),("allocator undefined for Fiber")])⟩ .skip,.dR 2 (.aS (0) 8 [.aS (0) 1 [(1)]]),.expr (.call 408 [(1),(2)]),.ret (2)⟩
noncomputable def zX:U:=⟨.bF (.or (.not (.prim (.bZ 228) [(1)])) (.not (.attr (1) 7))) ⟨.ret (.aS (0) 20 [("TypeError"),.prim .add [.prim .add [("superclass must be an instance of Class (given "),.aS (0) 22 [(1)]],(")")]])⟩ .skip,.bF (.aS (1) 5 []) ⟨.ret (.aS (0) 20 [("TypeError"),("can't make subclass of singleton class")])⟩ .skip,.bF (.call 281 [(1),.aS (0) 0 [("Class")]]) ⟨.ret (.aS (0) 20 [("TypeError"),("can't make subclass of Class")])⟩ .skip,.dR 2 (.aS (0) 8 [.aS (0) 0 [("Class")]]),.mR (2) 7 (2) 8 (.con (.bool true)) (1),.ret (2)⟩
noncomputable def xr:U:=⟨.ret (.aS (0) 8 [.aS (0) 0 [("Module")]])⟩
noncomputable def BH:U:=⟨.loop 2 (0) ⟨.bF (.call 281 [(2),(1)]) ⟨.ret (.con (.bool true))⟩ .skip⟩,.ret (.con (.bool false))⟩
noncomputable def Dj:U:=⟨.dR 1 (.prim .list []),.loop 2 (.prim .rev [.attr (0) 13]) ⟨.expr (.bm .extend (1) [.call 457 [(2)]])⟩,.expr (.bm .append (1) [(0)]),.loop 2 (.prim .rev [.attr (0) 12]) ⟨.expr (.bm .extend (1) [.call 457 [(2)]])⟩,.ret (1)⟩
noncomputable def xo:U:=⟨.ret (.prim .sum [.lc (none::none::none::none::.nil) 1 (.attr (0) 13) (.prim .len [.call 457 [(1)]]) (.con (.bool true))])⟩
noncomputable def nh:U:=⟨.dR 2 (.bF (.prim .is [.attr (1) 8,.con .none]) (.prim .list []) (.call 474 [(0),.attr (1) 8])),.iI (3::4::.nil) (.prim .tup [.prim .list [],.call 462 [(1)]]),.sr 5 6 (.call 457 [(1)]) ⟨.bF (.and (.not (.call 450 [(3),(6)])) (.or (.prim .lt [(5),(4)]) (.not (.call 450 [(2),(6)])))) ⟨.expr (.bm .append (3) [(6)])⟩ .skip⟩,.ret (.prim .add [(3),.lc (none::none::none::(some 3)::.nil) 1 (2) (1) (.not (.call 450 [(3),(1)]))])⟩
noncomputable def rW:U:=⟨.bF (.or (.prim .is [.attr (1) 16,.con .none]) (.prim .ne [.prim .item [.attr (1) 16,.con (.int 0 0)],.attr (0) 36])) ⟨.bI (1) 16 (.prim .tup [.attr (0) 36,.call 467 [(0),(1)]])⟩ .skip,.ret (.prim .item [.attr (1) 16,.con (.int 1 0)])⟩
noncomputable def xq:U:=⟨.dR 3 (.bm .ry (.bm .uU (.attr (0) 27) [.attr (1) 15,.prim .iM []]) [(2)]),.bF (.prim .dU [(3),.con .none]) ⟨.dR 4 (.bF (.prim (.jM "str") [(3)]) ("control") ("native")),.ret .bad⟩ .skip,.dR 5 (.bm .ry (.bm .uU (.attr (0) 28) [.attr (1) 15,.prim .iM []]) [(2)]),.bF (.prim .is [(5),.con .none]) ⟨.ret (.con .none)⟩ .skip,.dR 6 .bad,.s9 (.prim .eq [.bad,("seq")]) ⟨.dR 6 (.prim .item [.prim .item [.bad,.con (.int 0 0)],.con (.int 0 0)])⟩,.iI (7::8::9::10::.nil) .bad,.ret .bad⟩
noncomputable def Dh:U:=⟨.dR 3 (.bm .ry (.attr (1) 10) [(2)]),.bF (.and (.prim .is [(3),.con .none]) (.prim .dU [.attr (1) 15,.con .none])) ⟨.dR 3 (.call 502 [(0),(1),(2)]),.bF (.prim .dU [(3),.con .none]) ⟨.fG (.attr (1) 10) (2) (3)⟩ .skip⟩ .skip,.ret (.bF (.or (.prim .is [(3),.con .none]) (.prim .eq [.attr (3) 21,("gone")])) (.con .none) (3))⟩
noncomputable def oS:U:=⟨.loop 3 (1) ⟨.dR 4 (.call 509 [(0),(3),(2)]),.bF (.prim .dU [(4),.con .none]) ⟨.ret (.bF (.prim .eq [.attr (4) 21,("none")]) (.con .none) (4))⟩ .skip⟩,.ret (.con .none)⟩
noncomputable def Qq:U:=⟨.ret (.call 516 [(0),.call 474 [(0),(1)],(2)])⟩
noncomputable def sZ:U:=⟨.aug (0) 36 (.con (.int 1 0))⟩
noncomputable def sY:U:=⟨.bF (.attr (1) 4) ⟨.expr (.aS (0) 20 [("FrozenError"),.prim .add [.prim .add [.prim .add [("can't modify frozen "),.call 565 [(1)]],(": ")],.call 315 [(1)]]])⟩ .skip⟩
noncomputable def lC:U:=⟨.bF (.or (.prim .is [(1),.con .none]) (.prim (.jM "bool") [(1)])) ⟨.ret (.aS (0) 1 [(1)])⟩ .skip,.bF (.not (.prim (.bZ 40) [(1)])) ⟨.expr (.aS (0) 20 [("TypeError"),("can't define singleton")])⟩ .skip,.bF (.prim .dU [.attr (1) 3,.con .none]) ⟨.ret (.attr (1) 3)⟩ .skip,.dR 2 (.aS (0) 1 [(1)]),.bF (.and (.prim (.bZ 228) [(1)]) (.and (.attr (1) 7) (.prim .dU [.attr (1) 8,.con .none]))) ⟨.dR 2 (.call 544 [(0),.attr (1) 8])⟩ .skip,.bI (1) 3 (.aS (0) 10 [.con .none,.con (.bool true),(2),.con .none,(1)]),.bF (.and (.prim (.bZ 228) [(1)]) (.and (.prim .dU [.attr (1) 15,.con .none]) (.not (.aS (1) 5 [])))) ⟨.bI (.attr (1) 3) 15 (.prim .add [.attr (1) 15,(".")])⟩ .skip,.expr (.call 530 [(0)]),.ret (.attr (1) 3)⟩
noncomputable def Kq:U:=⟨.expr (.call 537 [(0),(1)]),.fG (.attr (1) 10) (.attr (2) 6) (2),.expr (.call 530 [(0)])⟩
noncomputable def xx:U:=⟨.expr (.call 537 [(0),(1)]),.fG (.attr (1) 10) (2) (3),.expr (.call 530 [(0)])⟩
noncomputable def BJ:U:=⟨.ret (.bF (.attr (0) 7) ("class") ("module"))⟩
noncomputable def zY:U:=⟨.dR 3 (.call 523 [(0),(1),(2)]),.bF (.and (.prim .is [(3),.con .none]) (.not (.attr (1) 7))) ⟨.dR 3 (.call 523 [(0),.aS (0) 0 [("Object")],(2)])⟩ .skip,.bF (.prim .is [(3),.con .none]) ⟨.expr (.aS (0) 20 [("NameError"),.prim .add [.prim .add [.prim .add [.prim .add [.prim .add [.prim .add [("undefined method '"),(2)],("' for ")],.call 565 [(1)]],(" '")],.call 315 [(1)]],("'")]])⟩ .skip,.ret (3)⟩
noncomputable def Dk:U:=⟨.expr (.call 572 [(0),(1),(2)]),.expr (.call 558 [(0),(1),(2),.make 256 [(2),(1),("none"),.con .none,.con .none,("public")]])⟩
noncomputable def BK:U:=⟨.dR 3 (.call 509 [(0),(1),(2)]),.bF (.or (.prim .is [(3),.con .none]) (.prim .eq [.attr (3) 21,("none")])) ⟨.expr (.aS (0) 20 [("NameError"),.prim .add [.prim .add [.prim .add [("method '"),(2)],("' not defined in ")],.call 315 [(1)]]])⟩ .skip,.expr (.call 537 [(0),(1)]),.bF (.or (.prim .is [.attr (1) 15,.con .none]) (.prim .is [.call 502 [(0),(1),(2)],.con .none])) ⟨.expr (.bm .pop (.attr (1) 10) [(2)])⟩ ⟨.fG (.attr (1) 10) (2) (.make 256 [(2),(1),("gone"),.con .none,.con .none,("public")])⟩,.expr (.call 530 [(0)])⟩
noncomputable def Ko:U:=⟨.ret (.aS (0) 21 [.attr (0) 6,.attr (0) 1,(1)])⟩
noncomputable def MV:U:=⟨.dR 4 (.call 572 [(0),(1),(3)]),.expr (.call 558 [(0),(1),(2),.call 593 [(4),.attr (4) 24]])⟩
noncomputable def BL:U:=⟨.loop 4 (2) ⟨.dR 5 (.call 572 [(0),(1),(4)]),.bF (.or (.prim .ne [.attr (5) 24,(3)]) (.prim .is [.call 509 [(0),(1),(4)],.con .none])) ⟨.expr (.call 558 [(0),(1),(4),.call 593 [(5),(3)]])⟩ .skip⟩⟩
noncomputable def Aa:U:=⟨.bF (.or (.not (.prim (.bZ 228) [(2)])) (.attr (2) 7)) ⟨.dR 3 (.call 315 [.aS (0) 1 [(2)]]),.expr (.aS (0) 20 [("TypeError"),.prim .add [.prim .add [("wrong argument type "),(3)],(" (expected Module)")]])⟩ .skip,.bF (.call 450 [.call 457 [(2)],(1)]) ⟨.expr (.aS (0) 20 [("ArgumentError"),("cyclic include detected")])⟩ .skip⟩
noncomputable def GK:U:=⟨.expr (.call 614 [(0),(1),(2)]),.expr (.call 537 [(0),(1)]),.bF (.not (.call 450 [.attr (1) 12,(2)])) ⟨.expr (.bm .append (.attr (1) 12) [(2)]),.expr (.call 530 [(0)])⟩ .skip⟩
noncomputable def GN:U:=⟨.expr (.call 614 [(0),(1),(2)]),.expr (.call 537 [(0),(1)]),.bF (.not (.call 450 [.attr (1) 13,(2)])) ⟨.expr (.bm .append (.attr (1) 13) [(2)]),.expr (.call 530 [(0)])⟩ .skip⟩
noncomputable def GO:U:=⟨.dR 4 (.call 523 [(0),.aS (0) 2 [(1)],(2)]),.ret (.and (.prim .dU [(4),.con .none]) (.or (3) (.prim .eq [.attr (4) 24,("public")])))⟩
noncomputable def rZ:U:=⟨.ret (.call 635 [(0),(1),.call 375 [(0),.prim .item [(2),.con (.int 0 0)]],.and (.prim .gt [.prim .len [(2)],.con (.int 1 0)]) (.call 267 [.prim .item [(2),.con (.int 1 0)]])])⟩
noncomputable def Dg:U:=⟨.bF (.prim .dU [.attr (1) 3,.con .none]) ⟨.expr (.call 422 [.attr (1) 3,.call 544 [(0),(2)]]),.aug (0) 36 (.con (.int 1 0))⟩ .skip⟩
noncomputable def Ab:U:=⟨.dR 3 (.call 429 [(0),(1)]),.bF (.prim (.bZ 228) [(1)]) ⟨.expr (.call 649 [(0),(1),(3)])⟩ .skip,.ret (3)⟩
noncomputable def we:U:=⟨.dR 3 (.call 429 [(0),(1)]),.bF (.prim (.bZ 40) [(1)]) ⟨.expr (.call 649 [(0),(1),(3)]),.bI (3) 4 (.attr (1) 4)⟩ .skip,.ret (3)⟩
noncomputable def xw:U:=⟨.ret (.bF (.prim .is [.attr (1) 6,.con .none]) (.con .none) (.aS (0) 7 [.call 315 [(1)]]))⟩
noncomputable def xu:U:=⟨.ret (.aS (0) 9 [.call 474 [(0),(1)]])⟩
noncomputable def rX:U:=⟨.loop 3 (2) ⟨.expr (.call 403 [(0),(3)])⟩,.loop 3 (.prim .rev [(2)]) ⟨.expr (.call 621 [(0),(1),(3)])⟩,.ret (1)⟩
noncomputable def rY:U:=⟨.loop 3 (2) ⟨.expr (.call 403 [(0),(3)])⟩,.loop 3 (.prim .rev [(2)]) ⟨.expr (.call 628 [(0),(1),(3)])⟩,.ret (1)⟩
noncomputable def sX:U:=⟨.loop 3 (2) ⟨.expr (.call 586 [(0),(1),.call 375 [(0),(3)]])⟩,.ret (1)⟩
noncomputable def wc:U:=⟨.loop 3 (2) ⟨.expr (.call 579 [(0),(1),.call 375 [(0),(3)]])⟩,.ret (1)⟩
noncomputable def vZ:U:=⟨.dR 3 (.call 375 [(0),.prim .item [(2),.con (.int 0 0)]]),.expr (.call 600 [(0),(1),(3),.call 375 [(0),.prim .item [(2),.con (.int 1 0)]]]),.ret (3)⟩
noncomputable def sU:U:=⟨.iI (3::4::.nil) (.aS (0) 13 [(1),.call 389 [(0),(2)]]),.bF (.not (3)) ⟨.iI (3::4::.nil) (.aS (0) 13 [.aS (0) 0 [("Object")],(2)])⟩ .skip,.ret (.bF (3) (4) (.aS (0) 15 [(1),(2)]))⟩
noncomputable def sW:U:=⟨.dR 3 (.bm .split (2) [("::")]),.dR 4 (.call 719 [(0),(1),.prim .item [(3),.con (.int 0 0)]]),.loop 5 (.prim .AO [(3)]) ⟨.expr (.call 396 [(0),(4)]),.dR 4 (.aS (0) 15 [(4),.call 389 [(0),(5)]])⟩,.ret (4)⟩
noncomputable def qK:U:=⟨.ret (.call 726 [(0),(1),.call 375 [(0),.prim .item [(2),.con (.int 0 0)]]])⟩
noncomputable def lV:U:=⟨.expr (.aS (0) 16 [(1),.call 389 [(0),.call 375 [(0),.prim .item [(2),.con (.int 0 0)]]],.prim .item [(2),.con (.int 1 0)]]),.ret (.prim .item [(2),.con (.int 1 0)])⟩
noncomputable def vY:U:=⟨.ret (.attr (1) 8)⟩
noncomputable def sP:U:=⟨.expr (.prim .BO [(0),(1)]),.bI (0) 42 (1)⟩
noncomputable def xh:U:=⟨.expr (.call 762 [(0),("a Ruby error")]),.bI (0) 43 (1)⟩
noncomputable def zU:U:=⟨.bI (0) 27 (1),.bI (0) 28 (.bF (.prim .is [(2),.con .none]) (.prim .iM []) (2)),.bI (0) 29 (3),.bI (0) 30 (4),.bI (0) 31 (.con (.int 0 0)),.bI (0) 32 (.con (.int 0 0)),.bI (0) 33 (.con (.int 8 0)),.bI (0) 34 (.prim .iM []),.bI (0) 35 (.prim .iM []),.bI (0) 36 (.con (.int 0 0)),.bI (0) 37 (.con (.int 0 0)),.bI (0) 38 (.prim .iM []),.bI (0) 39 (.prim .list []),.bI (0) 40 (.con (.bool false)),.bI (0) 41 (.make 40 [.aS (0) 6 [],.aS (0) 0 [("Object")]]),.bI (0) 40 (.con (.bool true)),.loop 5 (.prim .jD [.attr (0) 35]) ⟨.expr (.aS (0) 11 [(5)])⟩⟩
noncomputable def vV:U:=⟨.aug (0) 32 (.con (.int 1 0)),.ret (.attr (0) 32)⟩
noncomputable def sQ:U:=⟨.dR 2 (.bm .ry (.attr (0) 35) [(1)]),.ret (.bF (.prim .is [(2),.con .none]) (.aS (0) 12 [(1)]) (2))⟩
noncomputable def iG:U:=⟨.dR 2 (.prim .oN [(1),.con (.ref 788)]),.dR 3 (.make 228 [.aS (0) 6 [],.con .none,(1),(2)]),.fG (.attr (0) 35) (1) (3),.bI (3) 15 (1),.dR 4 (.prim .item [.con (.ref 789),(1)]),.bI (3) 8 (.bF (.prim .is [(4),.con .none]) (.con .none) (.aS (0) 0 [(4)])),.bI (3) 1 (.aS (0) 0 [.bF (2) ("Class") ("Module")]),.bI (3) 12 (.lc (none::none::(some 0)::.nil) 1 (.bm .uU (.con (.ref 792)) [(1),.prim .tup []]) (.aS (2) 0 [(1)]) (.con (.bool true))),.bF (.attr (0) 40) ⟨.expr (.aS (0) 11 [(1)])⟩ .skip,.ret (3)⟩
noncomputable def rV:U:=⟨.bF (.or (.prim .isin [.prim .add [(1),(".")],.attr (0) 27]) (.prim .isin [.prim .add [(1),(".")],.attr (0) 28])) ⟨.expr (.call 544 [(0),.prim .item [.attr (0) 35,(1)]])⟩ .skip⟩
noncomputable def pM:U:=⟨.dR 6 (.aS (0) 0 [.bF (2) ("Class") ("Module")]),.bF (.and (2) (.prim .is [(3),.con .none])) ⟨.dR 3 (.aS (0) 0 [("Object")])⟩ .skip,.dR 7 (.bF (.or (.prim .is [(4),.con .none]) (.call 281 [(4),.aS (0) 0 [("Object")]])) (.con .none) (4)),.dR 8 (.make 228 [.aS (0) 6 [],(6),(1),(2),(3),(7)]),.bI (8) 14 (5),.ret (8)⟩
noncomputable def rU:U:=⟨.bF (.prim .is [(1),.con .none]) ⟨.ret (.aS (0) 0 [("NilClass")])⟩ .skip,.bF (.prim (.jM "bool") [(1)]) ⟨.ret (.aS (0) 0 [.bF (1) ("TrueClass") ("FalseClass")])⟩ .skip,.bF (.prim (.jM "int") [(1)]) ⟨.ret (.aS (0) 0 [("Integer")])⟩ .skip,.ret (.bF (.prim (.jM "str") [(1)]) (.aS (0) 0 [("Symbol")]) (.attr (1) 1))⟩
noncomputable def vW:U:=⟨.bF (.not (.prim (.bZ 40) [(1)])) ⟨.ret (.aS (0) 1 [(1)])⟩ .skip,.bF (.prim .dU [.attr (1) 3,.con .none]) ⟨.ret (.attr (1) 3)⟩ .skip,.ret (.bF (.prim (.bZ 228) [(1)]) (.aS (0) 3 [(1)]) (.attr (1) 1))⟩
noncomputable def jI:U:=⟨.dR 2 (.bF (.and (.attr (1) 7) (.not (.aS (1) 5 []))) (.attr (1) 8) (.con .none)),.s9 (.prim .dU [(2),.con .none]) ⟨.bF (.prim .dU [.attr (2) 3,.con .none]) ⟨.ret (.attr (2) 3)⟩ .skip,.dR 2 (.attr (2) 8)⟩,.ret (.attr (1) 1)⟩
noncomputable def sS:U:=⟨.s9 (.or (.prim .is [.attr (1) 15,.con .none]) (.aS (1) 5 [])) ⟨.dR 1 (.attr (1) 8)⟩,.ret (.attr (1) 15)⟩
noncomputable def zV:U:=⟨.ret (.make 62 [.aS (0) 6 [],.aS (0) 0 [("String")],(1)])⟩
noncomputable def sR:U:=⟨.ret (.make 82 [.aS (0) 6 [],.aS (0) 0 [("Array")],.prim .jD [(1)]])⟩
noncomputable def oQ:U:=⟨.bF (.aS (1) 5 []) ⟨.expr (.aS (0) 20 [("TypeError"),("can't create instance of singleton class")])⟩ .skip,.iI (2::3::.nil) (.prim .tup [.aS (0) 4 [(1)],.aS (0) 6 []]),.bF (.prim .isin [(2),.con (.ref 800)]) ⟨.expr (.aS (0) 20 [("NoMethodError"),.prim .add [("undefined method 'new' for class "),.call 315 [(1)]]])⟩ .skip,.bF (.prim .eq [(2),("String")]) ⟨.ret (.make 62 [(3),(1),("")])⟩ .skip,.bF (.prim .eq [(2),("Array")]) ⟨.ret (.make 82 [(3),(1),.prim .list []])⟩ .skip,.bF (.prim .eq [(2),("Hash")]) ⟨.ret .bad⟩ .skip,.bF (.prim .eq [(2),("Range")]) ⟨.ret .bad⟩ .skip,.bF (.prim .eq [(2),("Fiber")]) ⟨.ret .bad⟩ .skip,.bF (.prim .eq [(2),("Proc")]) ⟨.ret .bad⟩ .skip,.bF (.prim .eq [(2),("Class")]) ⟨.ret (.make 228 [(3),(1),.con .none,.con (.bool true),.aS (0) 0 [("Object")]])⟩ .skip,.bF (.prim .eq [(2),("Module")]) ⟨.ret (.make 228 [(3),(1),.con .none,.con (.bool false)])⟩ .skip,.bF (.aS (0) 18 [(1)]) ⟨.ret (.make 181 [(3),(1)])⟩ .skip,.ret (.make 40 [(3),(1)])⟩
noncomputable def eE:U:=⟨.s9 (.prim .dU [(1),.con .none]) ⟨.bF (.prim .eq [.attr (1) 15,("Exception")]) ⟨.ret (.con (.bool true))⟩ .skip,.dR 1 (.attr (1) 8)⟩,.ret (.con (.bool false))⟩
noncomputable def xj:U:=⟨.ret (.make 181 [.aS (0) 6 [],.aS (0) 0 [(1)],.aS (0) 7 [(2)]])⟩
noncomputable def oj:U:=⟨.bF (.or (.not (.prim (.bZ 40) [(1)])) (.attr (1) 4)) ⟨.dR 2 (.call 315 [.aS (0) 23 [.aS (0) 1 [(1)]]]),.expr (.aS (0) 20 [("FrozenError"),.prim .add [.prim .add [.prim .add [("can't modify frozen "),(2)],(": ")],.call 368 [(1)]]])⟩ .skip⟩
noncomputable def mZ:U:=⟨.bF (.prim .isin [(2),.attr (1) 11]) ⟨.ret (.prim .tup [.con (.bool true),.prim .item [.attr (1) 11,(2)]])⟩ .skip,.bF (.and (.prim .isin [(2),.con (.ref 789)]) (.prim .eq [.attr (1) 15,("Object")])) ⟨.ret (.prim .tup [.con (.bool true),.aS (0) 0 [(2)]])⟩ .skip,.ret (.prim .tup [.con (.bool false),.con .none])⟩
noncomputable def lK:U:=⟨.iI (3::4::.nil) (.prim .tup [.aS (0) 0 [("Object")],.prim .tup [.con (.bool false),.con .none]]),.loop 5 (.call 474 [(0),(1)]) ⟨.bF (.and (.call 281 [(5),(3)]) (.not (.call 281 [(1),(3)]))) ⟨.ret (.prim .tup [.con (.bool false),.con .none])⟩ .skip,.dR 4 (.aS (0) 14 [(5),(2)]),.bF (.prim .item [(4),.con (.int 0 0)]) ⟨.ret (4)⟩ .skip⟩,.ret (4)⟩
noncomputable def oh:U:=⟨.bF (.not (.prim (.bZ 228) [(1)])) ⟨.expr (.aS (0) 20 [("TypeError"),.prim .add [.call 368 [(1)],(" is not a class/module")]])⟩ .skip,.iI (3::4::.nil) (.aS (0) 13 [(1),(2)]),.bF (.not (3)) ⟨.dR 5 (.bF (.call 281 [(1),.aS (0) 0 [("Object")]]) ("") (.prim .add [.call 315 [(1)],("::")])),.expr (.aS (0) 20 [("NameError"),.prim .add [.prim .add [("uninitialized constant "),(5)],(2)]])⟩ .skip,.ret (4)⟩
noncomputable def m8:U:=⟨.bF (.not (.prim (.bZ 228) [(1)])) ⟨.expr (.aS (0) 20 [("TypeError"),.prim .add [.call 368 [(1)],(" is not a class/module")]])⟩ .skip,.expr (.aS (0) 17 [(1)]),.fG (.attr (1) 11) (2) (3),.dR 4 (.and (.prim (.bZ 228) [(3)]) (.and (.prim .is [.attr (3) 6,.con .none]) (.not (.aS (3) 5 [])))),.bF (.and (4) (.not (.call 1066 [(3),(1)]))) ⟨.bI (3) 6 (2),.bI (3) 9 (.bF (.call 281 [(1),.aS (0) 0 [("Object")]]) (.con .none) (1))⟩ .skip,.aug (0) 37 (.con (.int 1 0))⟩
noncomputable def vX:U:=⟨.dR 1 (.con (.int 0 0)),.loop 2 (.prim .upto [(0),.con (.int 24 0)]) ⟨.dR 1 (.prim .add [.prim .add [.prim .mul [(1),.con (.int 1000003 0)],.prim .mul [.prim .mod [.prim .abs [(2)],.prim .pow [.con (.int 10 0),.con (.int 30 0)]],.con (.int 2 0)]],.prim .int [.prim .lt [(2),.con (.int 0 0)]]])⟩,.ret (.prim .list [(1),.con (.int 0 0)])⟩
noncomputable def BE:U:=⟨.fG (0) (.con (.int 1 0)) (.prim .add [.prim .item [(0),.con (.int 1 0)],.con (.int 1 0)]),.bF (.prim .eq [.prim .item [(0),.con (.int 0 0)],.con (.int 0 0)]) ⟨.ret (.prim .mod [.prim .mod [.prim .add [.prim .add [.prim .mul [.prim .mul [.con (.int 6 0),.prim .item [(0),.con (.int 1 0)]],.prim .item [(0),.con (.int 1 0)]],.prim .item [(0),.con (.int 1 0)]],.con (.int 2 0)],.con (.int 67 0)],(1)])⟩ .skip,.dR 2 (.prim .mod [.prim .item [(0),.con (.int 0 0)],(1)]),.fG (0) (.con (.int 0 0)) (.prim .fdiv [.prim .item [(0),.con (.int 0 0)],(1)]),.ret (2)⟩
noncomputable def zW:U:=⟨.Dc (.Ay (0) []) 1 "error " 43 1 6,.ret ("done")⟩
noncomputable def Df:U:=⟨.ret (.AJ ("thing"::"parent"::"methods"::"alone"::"consts"::"mixed"::"front"::.nil) [(0),(1),.prim .iM [],.prim .iM [],.prim .iM [],.prim .list [],.prim .list []])⟩
noncomputable def sC:U:=⟨.dR 2 (.prim .item [(0),(1)]),.dR 3 (.bF (.prim .is [.prim .item [(2),("parent")],.con .none]) (.prim .list []) (.call 1099 [(0),.prim .item [(2),("parent")]])),.dR 4 (.prim .add [.prim .add [.prim .rev [.prim .item [(2),("front")]],.prim .list [(1)]],.lc (none::none::(some 3)::(some 2)::.nil) 1 (.prim .rev [.prim .item [(2),("mixed")]]) (1) (.and (.prim .oN [(1),.prim .item [(3),("front")]]) (.prim .oN [(1),(2)]))]),.ret (.prim .add [(4),.lc (none::none::(some 4)::.nil) 1 (3) (1) (.prim .oN [(1),(2)])])⟩
noncomputable def qI:U:=⟨.loop 3 (.call 1099 [(0),(1)]) ⟨.bF (.prim .isin [(2),.prim .item [.prim .item [(0),(3)],("methods")]]) ⟨.ret (.prim .item [.prim .item [.prim .item [(0),(3)],("methods")],(2)])⟩ .skip⟩,.ret (.con .none)⟩
noncomputable def xm:U:=⟨.ret (.bF (.prim .is [(0),.con .none]) (.con .none) (.prim .tup [.attr (0) 23,.attr (0) 24]))⟩
noncomputable def m9:U:=⟨.iI (5::6::.nil) (.prim .tup [.prim .item [.prim .list [("x"),("y"),("z")],.call 1080 [(0),.con (.int 3 0)]],.prim .item [.prim .list [("public"),("private"),("protected")],.call 1080 [(0),.con (.int 3 0)]]]),.expr (.call 551 [(1),.prim .item [.prim .item [(2),(3)],("thing")],.make 256 [(5),.prim .item [.prim .item [(2),(3)],("thing")],("native"),.con .none,(4),(6)]]),.fG (.prim .item [.prim .item [(2),(3)],("methods")]) (5) (.prim .tup [(4),(6)]),.ret (.con (.bool true))⟩
noncomputable def eF:U:=⟨.iI (11::10::5::.nil) (.prim .tup [.prim .item [.prim .list [("x"),("y"),("z")],.call 1080 [(0),.con (.int 3 0)]],.prim .item [.prim .list [("x"),("w")],.call 1080 [(0),.con (.int 2 0)]],.call 1080 [(0),.con (.int 4 0)]]),.iI (6::12::7::.nil) (.prim .tup [.call 1106 [(2),(3),(11)],.prim .item [.prim .item [(2),(3)],("thing")],.prim .item [.prim .item [(2),(3)],("methods")]]),.dR 8 (.prim .list [.lam 833000 (11::12::1::.nil) (y9 833000),.lam 834000 (11::12::1::.nil) (y9 834000)]),.dR 8 (.prim .add [(8),.prim .list [.lam 836000 (10::11::12::1::.nil) (y9 836000),.lam 837000 (11::12::1::.nil) (y9 837000)]]),.dR 9 (.bF (.prim .eq [(5),.con (.int 0 0)]) (.prim .is [.bm .ry (7) [(11)],.con .none]) (.prim .is [(6),.con .none])),.bF (.prim .ne [.prim .ne [.call 1087 [.prim .item [(8),(5)]],("done")],(9)]) ⟨.ret (.con (.bool false))⟩ .skip,.bF (9) ⟨.ret (.con (.bool true))⟩ .skip,.bF (.prim .eq [(5),.con (.int 0 0)]) ⟨.expr (.bm .pop (7) [(11)])⟩ ⟨.bF (.prim .eq [(5),.con (.int 1 0)]) ⟨.fG (7) (11) (.con .none)⟩ ⟨.bF (.prim .eq [(5),.con (.int 2 0)]) ⟨.fG (7) (10) (6)⟩ ⟨.bF (.or (.prim .ne [.prim .item [(6),.con (.int 1 0)],("private")]) (.prim .oN [(11),(7)])) ⟨.fG (7) (11) (.prim .tup [.prim .item [(6),.con (.int 0 0)],("private")])⟩ .skip⟩⟩⟩,.ret (.con (.bool true))⟩
noncomputable def qJ:U:=⟨.iI (5::6::.nil) (.prim .tup [.prim .item [.prim .list [("M"),("N")],.call 1080 [(0),.con (.int 2 0)]],.call 1080 [(0),.con (.int 2 0)]]),.bF (.prim .eq [(6),.con (.int 0 0)]) ⟨.expr (.call 684 [(1),.prim .item [.prim .item [(2),(3)],("thing")],.prim .list [.prim .item [.prim .item [(2),(5)],("thing")]]])⟩ ⟨.expr (.call 691 [(1),.prim .item [.prim .item [(2),(3)],("thing")],.prim .list [.prim .item [.prim .item [(2),(5)],("thing")]]])⟩,.dR 7 (.prim .item [.prim .item [(2),(3)],.prim .item [.prim .list [("mixed"),("front")],(6)]]),.bF (.prim .oN [(5),(7)]) ⟨.expr (.bm .append (7) [(5)])⟩ .skip,.ret (.con (.bool true))⟩
noncomputable def BD:U:=⟨.iI (5::6::.nil) (.prim .tup [.prim .item [.prim .list [("K"),("L")],.call 1080 [(0),.con (.int 2 0)]],.call 1080 [(0),.con (.int 2 0)]]),.bF (.prim .eq [(6),.con (.int 0 0)]) ⟨.expr (.call 740 [(1),.prim .item [.prim .item [(2),(3)],("thing")],.prim .list [(5),(4)]]),.fG (.prim .item [.prim .item [(2),(3)],("consts")]) (5) (4)⟩ ⟨.dR 7 (.call 544 [(1),.prim .item [.prim .item [(2),(3)],("thing")]]),.expr (.call 551 [(1),(7),.make 256 [(5),(7),("native"),.con .none,(4),("public")]]),.fG (.prim .item [.prim .item [(2),(3)],("alone")]) (5) (4)⟩,.ret (.con (.bool true))⟩
noncomputable def fP:U:=⟨.iI (3::4::.nil) (.prim .tup [.prim .item [.prim .item [(2),("C")],("thing")],.call 1080 [(0),.con (.int 2 0)]]),.dR 5 (.bF (.prim .eq [(4),.con (.int 0 0)]) (.call 656 [(1),(3),.prim .list []]) (.call 663 [(1),(3),.prim .list []])),.fG (2) ("D") (.call 1094 [(5),.prim .item [.prim .item [(2),("C")],("parent")]]),.loop 6 (.prim .list [("methods"),("alone"),("consts")]) ⟨.fG (.prim .item [(2),("D")]) (6) (.prim .iV [.prim .item [.prim .item [(2),("C")],(6)]])⟩,.loop 6 (.prim .list [("mixed"),("front")]) ⟨.fG (.prim .item [(2),("D")]) (6) (.prim .jD [.prim .item [.prim .item [(2),("C")],(6)]])⟩,.ret (.and (.prim .ne [.attr (5) 0,.attr (3) 0]) (.prim .is [.call 670 [(1),(5),.prim .list []],.con .none]))⟩
noncomputable def qH:U:=⟨.loop 3 (.call 1099 [(0),(1)]) ⟨.bF (.prim .isin [(2),.prim .item [.prim .item [(0),(3)],("consts")]]) ⟨.ret (.prim .item [.prim .item [.prim .item [(0),(3)],("consts")],(2)])⟩ .skip⟩,.ret ("error NameError")⟩
noncomputable def qG:U:=⟨.s9 (.prim .dU [(1),.con .none]) ⟨.bF (.prim .isin [(2),.prim .item [.prim .item [(0),(1)],("alone")]]) ⟨.ret (.prim .item [.prim .item [.prim .item [(0),(1)],("alone")],(2)])⟩ .skip,.dR 1 (.prim .item [.prim .item [(0),(1)],("parent")])⟩,.ret (.con .none)⟩
noncomputable def jS:U:=⟨.loop 3 (2) ⟨.dR 10 (.prim .item [(1),(3)]),.dR 4 (.lc (none::none::.nil) 1 (.attr (.call 677 [(0),.prim .item [(10),("thing")],.prim .list []]) 18) (.attr (1) 0) (.con (.bool true))),.bF (.prim .ne [.prim .upto [(4),.prim .len [.call 1099 [(1),(3)]]],.lc (none::none::(some 1)::.nil) 1 (.call 1099 [(1),(3)]) (.attr (.prim .item [.prim .item [(2),(1)],("thing")]) 0) (.con (.bool true))]) ⟨.ret (.con (.bool false))⟩ .skip,.dR 5 (.aS (0) 8 [.prim .item [(10),("thing")]]),.loop 11 (.prim .list [("x"),("y"),("z"),("w")]) ⟨.dR 6 (.call 1106 [(1),(3),(11)]),.bF (.prim .ne [.call 1113 [.call 523 [(0),.prim .item [(10),("thing")],(11)]],(6)]) ⟨.ret (.con (.bool false))⟩ .skip,.dR 7 (.prim .list [.call 642 [(0),(5),.prim .list [(11)]],.call 642 [(0),(5),.prim .list [(11),.con (.bool true)]]]),.bF (.prim .ne [(7),.prim .list [.and (.prim .dU [(6),.con .none]) (.prim .eq [.prim .item [(6),.con (.int 1 0)],("public")]),.prim .dU [(6),.con .none]]]) ⟨.ret (.con (.bool false))⟩ .skip⟩,.loop 11 (.prim .list [("K"),("L")]) ⟨.bF (.prim .ne [.call 1087 [.lam 907026 (10::11::0::.nil) (y9 907026)],("done")]) ⟨.dR 8 ("error NameError")⟩ ⟨.dR 8 (.call 733 [(0),.prim .item [(10),("thing")],.prim .list [(11)]])⟩,.dR 9 (.call 523 [(0),.aS (0) 2 [.prim .item [(10),("thing")]],(11)]),.bF (.or (.prim .ne [(8),.call 1155 [(1),(3),(11)]]) (.prim .ne [.bF (.prim .is [(9),.con .none]) (.con .none) (.attr (9) 23),.call 1162 [(1),(3),(11)]])) ⟨.ret (.con (.bool false))⟩ .skip⟩,.bF (.and (.prim .dU [.prim .item [(10),("parent")],.con .none]) (.prim .ne [.attr (.call 747 [(0),.prim .item [(10),("thing")],.prim .list []]) 0,.attr (.prim .item [.prim .item [(1),.prim .item [(10),("parent")]],("thing")]) 0])) ⟨.ret (.con (.bool false))⟩ .skip⟩,.ret (.con (.bool true))⟩
noncomputable def sD:U:=⟨.iI (1::2::3::.nil) (.prim .tup [.call 1073 [(0)],.prim .int [.prim .gt [.prim .len [(0)],.con (.int 1 0)]],.make 1055 [.prim .iM []]]),.dR 4 (.call 436 [(3),.aS (3) 0 [("Object")]]),.dR 5 (.AJ ("B"::"C"::.nil) [.call 1094 [(4),.con .none],.call 1094 [.call 436 [(3),(4)],("B")]]),.mT (5) ("M") (5) ("N") (.call 1094 [.call 443 [(3)],.con .none]) (.call 1094 [.call 443 [(3)],.con .none]),.iI (6::7::.nil) (.prim .tup [.prim .list [.con (.ref 1120),.con (.ref 1120),.con (.ref 1127),.con (.ref 1134),.con (.ref 1141)],.prim .list [("C"),("C"),("B"),("M")]]),.qp 8 (.prim .add [.con (.int 4 0),.prim .mul [.con (.int 6 0),(2)]]) ⟨.bF (.prim .eq [(8),.prim .add [.con (.int 2 0),.prim .mul [.con (.int 2 0),(2)]]]) ⟨.bF (.not (.call 1148 [(1),(3),(5)])) ⟨.ret (.con (.bool false))⟩ .skip,.dR 7 (.prim .list [("C"),("D"),("C"),("D"),("B"),("M")])⟩ .skip,.iI (9::10::.nil) (.prim .tup [.prim .item [(7),.call 1080 [(1),.prim .len [(7)]]],.call 1080 [(1),.con (.int 5 0)]]),.dR 11 (.bF (.prim .eq [(9),("M")]) (.con (.ref 1120)) (.prim .item [(6),(10)])),.bF (.or (.not (.Ay (11) [(1),(3),(5),(9),(8)])) (.not (.call 1167 [(3),(5),.bF (.prim .isin [("D"),(5)]) (.prim .list [("C"),("D")]) (.prim .list [("C")])]))) ⟨.ret (.con (.bool false))⟩ .skip⟩,.ret (.con (.bool true))⟩
end
structure Row where
 f:Ad
 k:Nat
 ext:Lv
 cs:List Bool
 u:U
noncomputable abbrev fF(n:Nat):List Bool:=List.replicate n false
noncomputable abbrev nN(n:Nat):Lv:=List.replicate n none
noncomputable def tab:List Row:=[⟨37,3,[],[false,false,false],zT⟩,⟨59,4,[none],(fF 5),BC⟩,⟨79,4,[none],(fF 5),rT⟩,⟨178,4,[none],(fF 5),qF⟩,⟨218,5,[some (.none),some (.none),none],(fF 8),eB⟩,⟨218,6,[some (.none),none],(fF 8),eB⟩,⟨218,7,[none],(fF 8),eB⟩,⟨225,1,[],[false],mY⟩,⟨245,7,[],(fF 7),zS⟩,⟨253,3,[some (.none),none,none],(fF 6),fO⟩,⟨253,4,[none,none],(fF 6),fO⟩,⟨267,1,[none,none],[false,false,false],MW⟩,⟨274,1,(nN 4),(fF 5),GP⟩,⟨281,2,[none,none],(fF 4),Qs⟩,⟨315,1,[none,none],[false,false,false],BG⟩,⟨375,2,(nN 4),(fF 6),GL⟩,⟨382,2,[none,none,none],(fF 5),BI⟩,⟨389,2,[none,none],(fF 4),sV⟩,⟨403,2,[none,none,none],(fF 5),zZ⟩,⟨408,2,(nN 12),[true,false,false,false,false,false,false,false,false,false,false,false,false,false],BF⟩,⟨422,2,(nN 4),(fF 6),kC⟩,⟨429,2,(nN 5),(fF 7),GJ⟩,⟨436,2,(nN 4),(fF 6),zX⟩,⟨443,1,[],[false],xr⟩,⟨450,2,[none,none],(fF 4),BH⟩,⟨457,1,[none,none,none],(fF 4),Dj⟩,⟨462,1,[none],[false,false],xo⟩,⟨467,2,(nN 10),[false,false,false,true,false,false,false,false,false,false,false,false],nh⟩,⟨474,2,[none],[false,false,false],rW⟩,⟨502,3,(nN 12),(fF 15),xq⟩,⟨509,3,[none,none],(fF 5),Dh⟩,⟨516,3,[none,none,none],(fF 6),oS⟩,⟨523,3,[none,none],(fF 5),Qq⟩,⟨530,1,[],[false],sZ⟩,⟨537,2,[none,none],(fF 4),sY⟩,⟨544,2,(nN 7),(fF 9),lC⟩,⟨551,3,[none,none],(fF 5),Kq⟩,⟨558,4,[none,none],(fF 6),xx⟩,⟨565,1,[],[false],BJ⟩,⟨572,3,(nN 4),(fF 7),zY⟩,⟨579,3,[none,none,none],(fF 6),Dk⟩,⟨586,3,(nN 7),(fF 10),BK⟩,⟨593,2,[],[false,false],Ko⟩,⟨600,4,(nN 4),(fF 8),MV⟩,⟨607,4,(nN 6),(fF 10),BL⟩,⟨614,3,(nN 6),(fF 9),Aa⟩,⟨621,3,(nN 4),(fF 7),GK⟩,⟨628,3,(nN 4),(fF 7),GN⟩,⟨635,4,[none,none],(fF 6),GO⟩,⟨642,3,(nN 4),(fF 7),rZ⟩,⟨649,3,[none,none],(fF 5),Dg⟩,⟨656,3,(nN 5),(fF 8),Ab⟩,⟨663,3,(nN 5),(fF 8),we⟩,⟨670,3,[none],(fF 4),xw⟩,⟨677,3,[none],(fF 4),xu⟩,⟨684,3,[none,none,none],(fF 6),rX⟩,⟨691,3,[none,none,none],(fF 6),rY⟩,⟨698,3,[none,none,none],(fF 6),sX⟩,⟨705,3,[none,none,none],(fF 6),wc⟩,⟨712,3,[none,none,none],(fF 6),vZ⟩,⟨719,3,[none,none,none],(fF 6),sU⟩,⟨726,3,(nN 6),(fF 9),sW⟩,⟨733,3,[none,none],(fF 5),qK⟩,⟨740,3,[none,none],(fF 5),lV⟩,⟨747,3,[],[false,false,false],vY⟩,⟨762,2,[none],[false,false,false],sP⟩,⟨782,2,[none],[false,false,false],xh⟩,⟨815,2,[some (.none),some (.none),some (.int 20000 0),none,none,none],(fF 8),zU⟩,⟨836,1,[],[false],vV⟩,⟨857,2,[none],[false,false,false],sQ⟩,⟨862,2,(nN 7),[true,false,false,false,false,false,false,false,false],iG⟩,⟨869,2,[none],[false,false,false],rV⟩,⟨877,6,(nN 5),(fF 11),pM⟩,⟨884,2,(nN 4),(fF 6),rU⟩,⟨891,2,[none,none,none],(fF 5),vW⟩,⟨898,2,[none],[false,false,false],jI⟩,⟨905,2,[],[false,false],sS⟩,⟨919,2,[none],[false,false,false],zV⟩,⟨926,2,[none,none],(fF 4),sR⟩,⟨961,2,(nN 13),(fF 15),oQ⟩,⟨968,2,[],[false,false],eE⟩,⟨982,3,[none],(fF 4),xj⟩,⟨996,2,(nN 5),(fF 7),oj⟩,⟨1017,3,[none],(fF 4),mZ⟩,⟨1038,3,(nN 5),(fF 8),lK⟩,⟨1045,3,(nN 8),(fF 11),oh⟩,⟨1052,4,(nN 6),(fF 10),m8⟩,⟨1073,1,(nN 4),(fF 5),vX⟩,⟨1080,2,[none],[false,false,false],BE⟩,⟨1087,1,[none,none],[false,false,false],zW⟩,⟨1094,2,[],[false,false],Df⟩,⟨1099,2,(nN 4),[false,false,true,true,true,false],sC⟩,⟨1106,3,[none,none],(fF 5),qI⟩,⟨1113,1,[],[false],xm⟩,⟨1120,5,(nN 5),(fF 10),m9⟩,⟨1127,5,(nN 11),[false,true,false,false,false,false,false,false,false,false,true,true,true,false,false,false],eF⟩,⟨1134,5,(nN 6),(fF 11),qJ⟩,⟨1141,5,(nN 8),(fF 13),BD⟩,⟨1148,3,(nN 11),(fF 14),fP⟩,⟨1155,3,[none,none],(fF 5),qH⟩,⟨1162,3,[],[false,false,false],qG⟩,⟨1167,3,(nN 21),[true,true,false,false,false,false,false,false,false,false,true,true,false,false,false,false,false,false,false,false,false,false,false,false],jS⟩,⟨1174,1,(nN 26),(fF 27),sD⟩]
noncomputable def UY:Data->Op (Array Va)
 | .seq f _=>some f
 | _=>none
theorem Lk{d:Data}{f:Array Va}(h:UY d=some f):∃ n,d=.seq f n:=by cases d<;>first|exact bB h|exact⟨_,aj (λx=>Data.seq x _) (kr h)⟩
noncomputable def UW:Data->Op (Array Va)
 | .fields f=>some f
 | _=>none
theorem Lh{d:Data}{f:Array Va}(h:UW d=some f):d=.fields f:=by cases d<;>first|exact bB h|exact aj _ (kr h)
noncomputable def Qw:Va->Op Ad
 | .ref a=>some a
 | _=>none
theorem BN{d:Va}{f:Ad}(h:Qw d=some f):d=.ref f:=by cases d<;>first|exact bB h|exact aj _ (kr h)
noncomputable def vStr:Va->Op Str
 | .str a _=>some a
 | _=>none
theorem Ks{d:Va}{f:Str}(h:vStr d=some f):∃ n,d=.str f n:=by cases d<;>first|exact bB h|exact⟨_,aj (λx=>Value.str x _) (kr h)⟩
noncomputable def N7:Va->Op Unit
 | .none=>some ⟨⟩
 | _=>none
theorem GQ{d:Va}{f:Unit}(h:N7 d=some f):d=.none:=by cases d<;>first|exact bB h|rfl
noncomputable def N1{α:Type}:Sem α->Op α
 | .pure a=>some a
 | _=>none
theorem Gh{α:Type}{d:Sem α}{f:α}(h:N1 d=some f):d=.pure f:=by cases d<;>first|exact bB h|exact aj _ (kr h)
noncomputable def T8(K:Frag)(fd:FuncData):Op (Op (Array Va)):=((N7 fd.defaults).map λ_=>none).or ((Qw fd.defaults).bind λT=>(K.lookup T).bind λo=>(UY o.data).map some)
noncomputable def Nd(fd:FuncData)(as:List Va):{k // bindArgs fd ⟨as,[]⟩=seqItems? fd.defaults>>=k}:=⟨_,rfl⟩
noncomputable def vG:List Str->Bool
 | []=>true
 | x::r=>!r.contains x&&vG r
theorem yb:∀{l:List Str},vG l=true->l.Nodup:=by
 intro rr;induction rr with
 | nil=>exactλj=>.nil
 | cons x r ih=>intro h;change (!r.contains x&&vG r)=true at h;simp only[e9,i6] at h;rw[jj];refine⟨λq=>?_,ih h.2⟩;rw[List.contains_iff_mem.mpr q] at h;cases h.1
noncomputable def U6:Op NameKind->Bool
 | some .local=>true
 | some .cell=>true
 | _=>false
theorem O0:∀{k:Op NameKind},U6 k=true->k=some .local\/k=some .cell
 | none,h=>gR h
 | some k,h=>by cases k<;>first|exact .inl rfl|exact .inr rfl|exact gR h
noncomputable def bindB(scope:Scope)(binds:List (Str × Va)):Bool:=vG (binds.map (·.1))&&binds.all λx=>U6 (scope.names.lookup x.1)
theorem Hr{scope:Scope}{binds:List (Str × Va)}(h:bindB scope binds=true):oU scope binds:=by unfold bindB at h;rw[e9] at h;refine⟨yb h.1,λx hx=>?_⟩;have:=dz h.2 x hx;exact O0 this
noncomputable def sumOf(K:Frag)(fd:FuncData)(as:List Va):Op (Lv):=(T8 K fd).bind λd=>(N1 ((Nd fd as).1 d)).bind λbinds=>if bindB fd.scope binds then some (fR fd.scope binds) else none
theorem C6{K:Frag}{fd:FuncData}{as:List Va}{l0:Lv}(h:sumOf K fd as=some l0){s:Sh}(X:K.In s.heap):∃ binds,BindsTo s fd ⟨as,[]⟩ binds/\oU fd.scope binds/\fR fd.scope binds=l0:=by
 obtain⟨d,hd,h⟩:=dg h;obtain⟨binds,hb,h⟩:=dg h;obtain⟨k,hk',hb⟩:∃ k,bindArgs fd ⟨as,[]⟩=seqItems? fd.defaults>>=k/\k d=.pure binds:=⟨_,(Nd fd as).2,Gh hb⟩
 by_cases hk:bindB fd.scope binds=true
 ·rw[ai hk] at h
  refine⟨binds,?_,Hr hk,kr h⟩;rcases Option.or_eq_some_iff.mp hd with q|⟨-,q⟩
  ·obtain⟨u,hn,q⟩:=dw q
   subst q;refine .of_eq (hk'.trans ?_);rw[GQ hn];exact hb
  ·obtain⟨T,hT,q⟩:=dg q
   obtain⟨⟨c,n,o,s⟩,hl,q⟩:=dg q;obtain⟨items,hi,q⟩:=dw q;subst q;obtain⟨n,q⟩:=Lk hi;exact .of_defaults (BN hT) (X _ _ hl) q hk' hb
 ·rw[aa hk] at h
  exact bB h
noncomputable def kindB:ScopeKind->Bool
 | .function=>true
 | _=>false
noncomputable def AM(K:Frag)(f:Ad)(fd:FuncData):Bool:=
 (To K f).isSome&&(TU fd.body).isSome&&fd.closure.isEmpty&&(fd.globals==mainGlobals)&&(fd.builtins==builtinsNs)&&!fd.scope.isCoroutine&&!fd.scope.isGenerator&&kindB fd.scope.kind&&vG (fd.scope.names.map (·.1))&&
 (((Qw fd.code).bind λc=>(K.lookup c).bind λo=>(UW o.data).bind λvs=>(vs[1]?).bind vStr)==some fd.qualname)&&
 ([0,880000].all λk=>!(fd.scope.names.map (·.1)==gT k)||((fd.code==.ref (fC k))&&(fd.qualname++".<locals>."++"<lambda>"==gH k)))
end
theorem UL(P:Params):(tab.all λr=>AM (Kf P) r.f (fnAt P r.f))=true:=by kernel_rfl
theorem Kl(P:Params):tab.map (λr=>jK (Kf P) 50 (fnAt P r.f).scope.names (jW P r.f))=tab.map (·.u):=by kernel_rfl
theorem SX(P:Params):tab.map (λr=>aK (fnAt P r.f).scope.names)=tab.map (·.cs):=by kernel_rfl
theorem SY(P:Params):tab.map (λr=>jC (fnAt P r.f).scope)=tab.map (λr=>r.cs.any id):=by kernel_rfl
theorem Wd(P:Params)(g:Nat->Va):tab.map (λr=>sumOf (Kf P) (fnAt P r.f) ((List.range r.k).map g))=tab.map λr=>some ((List.range r.k).map (λi=>some (ab (g i)))++r.ext):=by kernel_rfl
theorem F0(l:List Va):(List.range l.length).map (λi=>l.getD i .none)=l:=List.ext_getElem (by simp) λi h₁ bA=>by simp [List.getD,bA]
theorem Kh(P:Params):∀ r∈tab,∀ as:List Va,as.length=r.k->sumOf (Kf P) (fnAt P r.f) as=some (as.map (λv=>some (ab v))++r.ext):=λr hr as hl=>by have h:=List.map_inj_left.mp (Wd P λi=>as.getD i .none) r hr;have e:(List.range r.k).map (λi=>as.getD i .none)=as:=hl▸F0 as;rw[e] at h;refine h.trans (aj (λl=>some (l++r.ext)) ?_);exact(ir (f:=λi=>as.getD i .none) (g:=λv=>some (ab v))).symm.trans (aj _ e)
theorem AN{K:Frag}{f:Ad}{fd:FuncData}{o:Obj}(hl:K.lookup f=some o)(hd:o.data=.func fd)(h:AM K f fd=true)(k:List Stmt)(hb:fd.body=.stmts k):Ag K f fd k:=by
 unfold AM at h;simp only[e9,az,i6] at h;obtain⟨⟨⟨⟨⟨⟨⟨⟨⟨⟨h1,h2⟩,h3⟩,h4⟩,h5⟩,h6⟩,h7⟩,h8⟩,h9⟩,h10⟩,h11⟩:=h;refine⟨⟨o,hl,hd⟩,hb,List.isEmpty_iff.mp h3,h4,h5,h6,h7,?_,yb h9,?_,?_⟩
 ·revert h8;cases fd.scope.kind<;>intro q<;>first|rfl|cases q
 ·obtain⟨c,hc,q⟩:=dg h10
  obtain⟨o,ho,q⟩:=dg q;obtain⟨vs,hv,q⟩:=dg q;obtain⟨x,hx,q⟩:=dg q;obtain⟨t,q⟩:=Ks q;exact⟨c,o,vs,t,BN hc,ho,Lh hv,hx.trans (aj some q)⟩
 ·intro k hk
  simp only[List.all_cons,List.all_nil,Bool.and_true,e9,j4,i6,beq_eq_false_iff_ne,az] at h11;obtain⟨g1,g2⟩:=h11;by_cases hq:sq k=true
  ·have e1:gT k=gT 0:=by unfold gT;rw[hq];rfl
   have e2:fC k=fC 0:=by unfold fC;rw[hq];rfl
   have e3:gH k=gH 0:=by unfold gH;rw[hq];rfl
   rw[e2,e3];exact g1.resolve_left λq=>q (hk.trans e1)
  ·have hq:sq k=false:=by simpa using hq
   have e1:gT k=gT 880000:=by unfold gT;rw[hq];rfl
   have e2:fC k=fC 880000:=by unfold fC;rw[hq];rfl
   have e3:gH k=gH 880000:=by unfold gH;rw[hq];rfl
   rw[e2,e3];exact g2.resolve_left λq=>q (hk.trans e1)
theorem Nt(P:Params):∀ r∈tab,Ag (Kf P) r.f (fnAt P r.f) (jW P r.f):=λr hr=>by
 have h:=dz (UL P) r hr;have h1:=h;unfold AM at h1;simp only[e9] at h1;have h1:=h1.1.1.1.1.1.1.1.1.1;obtain⟨fd,hf⟩:=cz h1.1;obtain⟨b,hb⟩:=cz h1.2;obtain⟨o,hl,hd⟩:=DR _ hf;have e:fnAt P r.f=fd:=by unfold fnAt;rw[hf];rfl
 have e2:jW P r.f=b:=by unfold jW;rw[hb];rfl
 refine AN hl (hd.trans (aj _ e.symm)) h _ ((KV hb).trans (aj _ e2.symm))
theorem xM{n:Nat}{r:Row}{vs:List Va}{Ph:PH}{X:XP}{Q:VQ}(hr:r∈tab)(hl:vs.length=r.k)
  (h:wpS n r.cs r.u (vs.map some++r.ext) Ph (λe P'=>X e (if r.cs.any id then bJ P' else P')) (λ_ P'=>Q .none (if r.cs.any id then bJ P' else P')) (λv P'=>Q v (if r.cs.any id then bJ P' else P'))):
  Calls (n+1) r.f vs Ph X Q:=by
 have hc:=List.map_inj_left.mp (Kl wd.params) r hr;have hs:=List.map_inj_left.mp (SX wd.params) r hr;have hh:=List.map_inj_left.mp (SY wd.params) r hr;refine Cm (ql wd.params) (Nt wd.params r hr) (λs args X hv=>?_) hc ?_ (l0:=vs.map some++r.ext)
 ·subst hv
  have:=C6 (Kh wd.params r hr args (by simpa using hl)) X;rw[ir];exact this
 ·rw[hs]
  have e:∀ P',ret (fnAt wd.params r.f).scope P'=if r.cs.any id then bJ P' else P':=λP'=>by unfold ret;rw[hh]
  simp only[e];exact h
theorem aB(i:Nat){n:Nat}{f:Ad}{k:Nat}{ext:Lv}{cs:List Bool}{u:U}{vs:List Va}{Ph:PH}{X:XP}{Q:VQ}(hr:tab[i]?=some ⟨f,k,ext,cs,u⟩)(hl:vs.length=k)(nc:cs.any id=false)
  (h:wpS n cs u (vs.map some++ext) Ph X (λ_ P'=>Q .none P') Q):Calls (n+1) f vs Ph X Q:=by refine xM (r:=⟨f,k,ext,cs,u⟩) (g4 hr) hl ?_;simp only[nc];exact h
section
variable{Ph:PH}{a b C:Ad}{fs:List (Nat × Va)}{x:Nat}{v:Va}{vs us:List Va}{kvs:List (Str × Va)}{t t':Nat × Nat}
theorem bt{A B:Prop}{c:Bool}(e:c=true)(h:A):aV (.bool c) A B:=by subst e;exact h
theorem bf{A B:Prop}{c:Bool}(e:c=false)(h:B):aV (.bool c) A B:=by subst e;exact h
theorem aG{R:Va->Prop}(h:Ph a=some (.inst C fs))(hf:gS C x=true)(hg:eH x fs=some v)(hh:handedIn v=true)(hq:R v):(match Ph a with
 | some (.inst C fs)=>gS C x=true/\(match eH x fs with
  | some v=>handedIn v=true/\R v
  | none=>False)
 | some (.exc C fs)=>(C=785/\cT x=true)/\(match eH x fs with
  | some v=>handedIn v=true/\R v
  | none=>False)
 | _=>False):=by rw[h];dsimp only;rw[hg];exact⟨hf,hh,hq⟩
theorem QX{R:Va->Prop}(h:Ph a=some (.exc 785 fs))(hf:cT x=true)(hg:eH x fs=some v)(hh:handedIn v=true)(hq:R v):(match Ph a with
 | some (.inst C fs)=>gS C x=true/\(match eH x fs with
  | some v=>handedIn v=true/\R v
  | none=>False)
 | some (.exc C fs)=>(C=785/\cT x=true)/\(match eH x fs with
  | some v=>handedIn v=true/\R v
  | none=>False)
 | _=>False):=by rw[h];dsimp only;rw[hg];exact⟨⟨rfl,hf⟩,hh,hq⟩
theorem bQ{R1 R3:Ad->List (Nat × Va)->Prop}{R2:Ad->Prop}(h:Ph a=some (.inst C fs))(hf:gS C x=true)(hl:fs.length<900)(hq:R1 C fs):(match Ph a with
 | some (.inst C fs)=>gS C x=true/\fs.length<900/\R1 C fs
 | some (.raw C)=>(C=785/\cT x=true)/\R2 C
 | some (.kF C fs)=>(C=785/\cT x=true/\fs.length<900)/\R3 C fs
 | _=>False):=by rw[h];exact⟨hf,hl,hq⟩
theorem SN{R1 R3:Ad->List (Nat × Va)->Prop}{R2:Ad->Prop}(h:Ph a=some (.raw 785))(hf:cT x=true)(hq:R2 785):(match Ph a with
 | some (.inst C fs)=>gS C x=true/\fs.length<900/\R1 C fs
 | some (.raw C)=>(C=785/\cT x=true)/\R2 C
 | some (.kF C fs)=>(C=785/\cT x=true/\fs.length<900)/\R3 C fs
 | _=>False):=by rw[h];exact⟨⟨rfl,hf⟩,hq⟩
theorem SO{R1 R3:Ad->List (Nat × Va)->Prop}{R2:Ad->Prop}(h:Ph a=some (.kF 785 fs))(hf:cT x=true)(hl:fs.length<900)(hq:R3 785 fs):(match Ph a with
 | some (.inst C fs)=>gS C x=true/\fs.length<900/\R1 C fs
 | some (.raw C)=>(C=785/\cT x=true)/\R2 C
 | some (.kF C fs)=>(C=785/\cT x=true/\fs.length<900)/\R3 C fs
 | _=>False):=by rw[h];exact⟨⟨rfl,hf,hl⟩,hq⟩
theorem aU{m:Nat}{f:Ad}{R:Ad->Ad->List (Nat × Va)->Prop}(h:Ph a=some (.inst C fs))(hm:bO C m=some f)(hx:match bL m with|some x=>eH x fs=none|none=>True)(hq:R f C fs):(match Ph a with
 | some (.inst C fs)=>(match bO C m with
  | some f=>(match bL m with
   | some x=>eH x fs=none
   | none=>True)/\R f C fs
  | none=>False)
 | _=>False):=by rw[h];dsimp only;rw[hm];exact⟨hx,hq⟩
theorem pn{R:Prop}(h:Ph a=some (.inst C fs))(hs:(eX.lookup C).isSome=true)(hq:R):(match Ph a with
 | some (.inst C _)=>(eX.lookup C).isSome=true/\R
 | _=>False):=by rw[h];exact⟨hs,hq⟩
theorem bS{R:Ad->Prop}(h:Ph a=some (.inst C fs))(hs:(eX.lookup C).isSome=true)(hq:R C):(match Ph a with
 | some (.inst C _)=>(eX.lookup C).isSome=true/\R C
 | _=>False):=by rw[h];exact⟨hs,hq⟩
theorem zb{R:List Va->Prop}(h:Ph a=some (.list t vs))(hl:vs.length<big)(hq:R vs):(match Ph a with
 | some (.list _ vs)=>vs.length<big/\R vs
 | _=>False):=by rw[h];exact⟨hl,hq⟩
theorem Cb{R:Nat × Nat->List Va->Prop}(h:Ph a=some (.list t vs))(hl:vs.length<big)(hq:R t vs):(match Ph a with
 | some (.list t vs)=>vs.length<big/\R t vs
 | _=>False):=by rw[h];exact⟨hl,hq⟩
theorem Ue{R:Nat × Nat->List Va->List Va->Prop}(h:Ph a=some (.list t vs))(h':Ph b=some (.list t' us))(hl:a≠b/\vs.length<big/\us.length<big)(hq:R t vs us):(match Ph a with
 | some (.list t vs)=>(match Ph b with
  | some (.list _ us)=>(a≠b/\vs.length<big/\us.length<big)/\R t vs us
  | _=>False)
 | _=>False):=by rw[h,h'];exact⟨hl,hq⟩
theorem Hh{R:List Va->List Va->Prop}(h:Ph a=some (.list t vs))(h':Ph b=some (.list t' us))(hl:vs.length<big/\us.length<big)(hq:R vs us):(match Ph a with
 | some (.list _ vs)=>(match Ph b with
  | some (.list _ us)=>(vs.length<big/\us.length<big)/\R vs us
  | _=>False)
 | _=>False):=by rw[h,h'];exact⟨hl,hq⟩
theorem uW{R:List (Str × Va)->Prop}(h:Ph a=some (.dict t kvs))(hq:R kvs):(match Ph a with
 | some (.dict _ kvs)=>R kvs
 | _=>False):=by rw[h];exact hq
theorem dG{o:PO}(h:Ph a=some o):rd Ph a=some o:=by unfold rd;rw[h]
theorem Nu{R:List (Str × Va)->Prop}(h:Ph a=some (.dict t kvs))(hq:R kvs):(match rd Ph a with
 | some (.dict _ kvs)=>R kvs
 | _=>False):=by rw[dG h];exact hq
theorem IV{R:List Va->Prop}(h:Ph a=some (.list t vs))(hl:vs.length<big)(hq:R vs):iE Ph->(match rd Ph a with
 | some (.list _ vs)=>vs.length<big/\R vs
 | _=>False):=λq=>by rw[dG h];exact⟨hl,hq⟩
theorem aO{R:Va->Prop}{k:Str}(h:Ph a=some (.dict t kvs))(hk:aR k kvs=some v)(hq:R v):Ek (rd Ph a) λkvs=>BZ (aR k kvs) R:=by rw[dG h];show BZ (aR k kvs) R;rw[hk];exact hq
theorem cC{R:Va->Prop}{i:Int}(h:Ph a=some (.list t vs))(h0:0<=i)(h1:i<2^62)(hk:vs[i.toNat]?=some v)(hq:R v):KY (Ph a) (λvs=>0<=i/\i<2^62/\BZ vs[i.toNat]? R) λvs=>0<=i/\i<2^62/\BZ vs[i.toNat]? R:=by rw[h];refine⟨h0,h1,?_⟩;rw[hk];exact hq
theorem oH{R:Va->Prop}{i:Int}(h:Ph a=some (.tup vs))(h0:0<=i)(h1:i<2^62)(hk:vs[i.toNat]?=some v)(hq:R v):KY (Ph a) (λvs=>0<=i/\i<2^62/\BZ vs[i.toNat]? R) λvs=>0<=i/\i<2^62/\BZ vs[i.toNat]? R:=by rw[h];refine⟨h0,h1,?_⟩;rw[hk];exact hq
theorem tS{R1 R2:List Va->Prop}{R3:List (Str × Va)->Prop}(h:Ph a=some (.list t vs))(hl:vs.length<big)(hq:R1 vs):(match Ph a with
 | some (.list _ vs)=>vs.length<big/\R1 vs
 | some (.tup vs)=>vs.length<big/\R2 vs
 | some (.dict _ kvs)=>kvs.length<big/\R3 kvs
 | _=>False):=by rw[h];exact⟨hl,hq⟩
theorem LJ{R1 R2:List Va->Prop}{R3:List (Str × Va)->Prop}(h:Ph a=some (.dict t kvs))(hl:kvs.length<big)(hq:R3 kvs):(match Ph a with
 | some (.list _ vs)=>vs.length<big/\R1 vs
 | some (.tup vs)=>vs.length<big/\R2 vs
 | some (.dict _ kvs)=>kvs.length<big/\R3 kvs
 | _=>False):=by rw[h];exact⟨hl,hq⟩
theorem cX{R:List (Str × Va)->Prop}(h:Ph a=some (.dict t kvs))(hl:kvs.length<big)(hq:R kvs):(match Ph a with
 | some (.dict _ kvs)=>kvs.length<big/\R kvs
 | _=>False):=by rw[h];exact⟨hl,hq⟩
theorem So{R:Va->List (Str × Va)->Prop}{k:Str}(h:Ph a=some (.dict t kvs))(hl:kvs.length<big)(hk:aR k kvs=some v)(hq:R v kvs):Ek (Ph a) λkvs=>kvs.length<big/\BZ (aR k kvs) λv=>R v kvs:=by rw[h];refine⟨hl,?_⟩;rw[hk];exact hq
theorem JX{R:Nat × Nat->List Va->Prop}{i:Int}(h:Ph a=some (.list t vs))(hl:0<=i/\i.toNat<vs.length/\vs.length<big)(hq:R t vs):(match Ph a with
 | some (.list t vs)=>(0<=i/\i.toNat<vs.length/\vs.length<big)/\R t vs
 | _=>False):=by rw[h];exact⟨hl,hq⟩
theorem inD{k:Str}(h:rd Ph a=some (.dict t kvs)){tk:Tok}:QG Ph (.str k tk) (.ref a)=some (aR k kvs).isSome:=by
 show(match rd Ph a with
  | some (.dict _ kvs)=>some (aR k kvs).isSome
  | some (.list _ vs)=>gB k vs
  | some (.tup vs)=>gB k vs
  | _=>none)=_
 rw[h]
theorem U5{k:Str}(h:rd Ph a=some (.tup vs)){tk:Tok}:QG Ph (.str k tk) (.ref a)=gB k vs:=by
 show(match rd Ph a with
  | some (.dict _ kvs)=>some (aR k kvs).isSome
  | some (.list _ vs)=>gB k vs
  | some (.tup vs)=>gB k vs
  | _=>none)=_
 rw[h]
theorem RC{k:Str}(h:rd Ph a=some (.list t vs)){tk:Tok}:QG Ph (.str k tk) (.ref a)=gB k vs:=by
 show(match rd Ph a with
  | some (.dict _ kvs)=>some (aR k kvs).isSome
  | some (.list _ vs)=>gB k vs
  | some (.tup vs)=>gB k vs
  | _=>none)=_
 rw[h]
theorem nZ{R:List Va->Prop}(h:Ph a=some (.tup vs))(hq:R vs):(match Ph a with
 | some (.tup vs)=>R vs
 | _=>False):=by rw[h];exact hq
theorem Pk{R1:List (Str × Va)->Prop}{R2:PO->List Va->Prop}(h:Ph a=some (.dict t kvs))(hq:kvs.length<big/\R1 kvs):(match Ph a with
 | some (.dict _ kvs)=>kvs.length<big/\R1 kvs
 | some o=>(match itemsOf o with
  | some vs=>vs.length<big/\R2 o vs
  | none=>False)
 | none=>False):=by rw[h];exact hq
theorem cP{R1:List (Str × Va)->Prop}{R2:PO->List Va->Prop}(h:Ph a=some (.list t vs))(hl:vs.length<big)(hq:R2 (.list t vs) vs):(match Ph a with
 | some (.dict _ kvs)=>kvs.length<big/\R1 kvs
 | some o=>(match itemsOf o with
  | some vs=>vs.length<big/\R2 o vs
  | none=>False)
 | none=>False):=by rw[h];exact⟨hl,hq⟩
end
section
variable{n:Nat}{Ph:PH}{X:XP}{Q:VQ}
theorem p9{a C:Ad}{fs:List (Nat × Va)}(h:Ph a=some (.inst C fs))(hs:(eX.lookup C).isSome=true)(hq:Q (.str "thing" 0) Ph):Calls (n+1) 274 [.ref a] Ph X Q:=aB 12 rfl rfl rfl ⟨rfl,pn h hs (pn h hs (pn h hs hq))⟩
theorem Ot{a b C C':Ad}{fs fs':List (Nat × Va)}{i j:Int}(h:Ph a=some (.inst C fs))(hs:(eX.lookup C).isSome=true)(hf:gS C 0=true)(hg:eH 0 fs=some (.int i 0))(h':Ph b=some (.inst C' fs'))(hs':(eX.lookup C').isSome=true)(hf':gS C' 0=true)(hg':eH 0 fs'=some (.int j 0))
  (hq:Q (.bool (decide (i=j))) Ph):Calls (n+2) 281 [.ref a,.ref b] Ph X Q:=by refine aB 13 rfl rfl rfl ?_;refine p9 h hs ?_;refine p9 h' hs' ?_;refine aG h hf hg rfl ?_;refine aG h' hf' hg' rfl ?_;exact hq
end
noncomputable def jF(P:Params)(a:Ad):Obj:=((HA.B0 P).get a).getD default
theorem OQ(P:Params):yY.map (λa=>((HA.B0 P).get a).bind alive)=yY.map λa=>some (jF P a):=by kernel_rfl
theorem Rw:∀ a∈yY,a<1175/\a≠1122/\a≠1164/\a≠sysModules:=⋯
theorem IY{f:Ad->Obj}{a:Ad}{o:Obj}:∀{l:List Ad},(l.map λa=>(a,f a)).lookup a=some o->a∈l/\o=f a:=by
 intro l;induction l with
 | nil=>exactλh=>by cases h
 | cons b l ih=>
  intro h;rw[gn,f6] at h;by_cases e:a=b
  ·subst e;rw[bg] at h;obtain rfl:=kr h;exact⟨.head _,rfl⟩
  ·rw[beq_eq_false_iff_ne.mpr e] at h;have r:=ih h;exact⟨.tail _ r.1,r.2⟩
theorem Iu{P:Params}{a:Ad}{o:Obj}(ha:a<1175)(g:((HA.B0 P).get a).bind alive=some o):(H1 P).get? a=some o:=by
 cases q:(HA.B0 P).get a with
 | none=>rw[q] at g;cases g
 | some x=>rw[q] at g;exact(abs_get ha q).trans g
theorem Ro{P:Params}{a:Ad}{o:Obj}(h:(Kf P).lookup a=some o):(H1 P).get? a=some o/\a≠1122/\a≠1164:=by obtain⟨h1,rfl⟩:=IY h;have:=Rw a h1;exact⟨Iu this.1 (List.map_inj_left.mp (OQ P) a h1),this.2.1,this.2.2.1⟩
theorem OS(P:Params):([1122,1164]:List Ad).map (λa=>((HA.B0 P).get a).bind alive)=[some (tabObj #[]),some (tabObj #[])]:=by kernel_rfl
theorem Iv(P:Params):((HA.B0 P).get mainGlobals).bind alive=some (HA.qN P 121 "law_nz0059_01" 1876):=by kernel_rfl
theorem OP(P:Params):((HA.B0 P).get sysModules).bind alive=some (jF P sysModules):=by kernel_rfl
theorem OR(P:Params):((HA.B0 P).get 4).bind alive=some { cls:=.type "module",dict:=some 0 }:=by kernel_rfl
noncomputable def JS(o:Obj):List Va:=match o.data with
 | .seq vs _=>vs.toList
 | _=>[]
noncomputable def jL(o:Obj):List DictEntry:=match o.data with
 | .dict es _=>es.toList
 | _=>[]
noncomputable def E4(o:Obj):Nat:=match o.data with
 | .dict _ n=>n
 | _=>0
noncomputable def kt(e:DictEntry):Str × Nat × Va:=match e.key with
 | .str k t=>(k,t,e.val)
 | _=>("",0,.none)
noncomputable def tups:List Ad:=[788,793,794,795,796,797,798,799,800]
theorem Lz(P:Params):tups.map (λa=>((HA.B0 P).get a).bind alive)=tups.map λa=>some (HA.t (JS (jF P a))):=by kernel_rfl
theorem Ly(P:Params):tups.map (λa=>some (PO.tup ((JS (jF P a)).map ab)))=tups.map nY:=by kernel_rfl
theorem Rp(P:Params):((HA.B0 P).get 789).bind alive=some (HA.dc (jL (jF P 789)) (E4 (jF P 789))):=by kernel_rfl
theorem Rq(P:Params):((HA.B0 P).get 792).bind alive=some (HA.dc (jL (jF P 792)) (E4 (jF P 792))):=by kernel_rfl
noncomputable def kd(P:Params)(q:Str × Nat × Va):DictEntry:=⟨PyData.keyHash P q.1,.str q.1 q.2.1,q.2.2⟩
theorem Rr(P:Params):jL (jF P 789)=((jL (jF P 789)).map kt).map (kd P):=by kernel_rfl
theorem Rt(P:Params):jL (jF P 792)=((jL (jF P 792)).map kt).map (kd P):=by kernel_rfl
theorem Ru(P:Params):some (PO.dict (0,0) (((jL (jF P 789)).map kt).map λq=>(q.1,ab q.2.2)))=nY 789:=by kernel_rfl
theorem Rv(P:Params):some (PO.dict (0,0) (((jL (jF P 792)).map kt).map λq=>(q.1,ab q.2.2)))=nY 792:=by kernel_rfl
theorem DP{l:List (Str × Nat × Va)}{n:Nat}(nd:(l.map (·.1)).Nodup):(HA.dc (l.map (kd wd.params)) n).IsDictOf (PySem.strKind pw wd) (l.map λq=>(q.1,q.2.2)):=by
 refine⟨_,_,⟨rfl,rfl,rfl⟩,rfl,λe he=>?_,?_,by rw[ir];exact nd⟩
 ·obtain⟨q,hq,rfl⟩:=List.mem_map.mp (List.mem_toArray.mp he)
  exact⟨q.1,bz _ wd q.1 q.2.1,rfl⟩
 ·show Pairs _ (l.map (kd wd.params)) _
  clear nd;induction l with
  | nil=>exact .nil
  | cons q l ih=>exact .cons (bz _ wd q.1 q.2.1) rfl ih
theorem Jr(P:Params):nsFind (jL (HA.qN P 121 "law_nz0059_01" 1876)).toArray "law"=some (.ref 1174)/\nsFind (jL (HA.qN P 121 "law_nz0059_01" 1876)).toArray "__builtins__"=some (.ref 4):=⟨by kernel_rfl,by kernel_rfl⟩
theorem zo{h:Heap}{a:Ad}{m:Str->Op Va}{l:List Ad}(n:h.Ns a m)(ha:a∉l):(hideAll h l).Ns a m:=let ⟨o,es,ep,e,r⟩:=n;⟨o,es,ep,br _ e ha,r⟩
theorem I2{env:Env}{G:HF}{binds:List (Str × Va)}{scope:Scope}(hs:env.scope=scope)(nd:(scope.names.map (·.1)).Nodup)(hb:(binds.map (·.1)).Nodup)(hl:∀ x∈binds,scope.names.lookup x.1=some .local):lF env G (λx=>binds.reverse.lookup x) (fR scope binds):=by
 intro i v hi;unfold fR at hi;rw[gj] at hi;cases hn:scope.names[i]? with
 | none=>rw[hn] at hi;cases hi
 | some q=>
  obtain⟨y,k⟩:=q;rw[hn] at hi;simp only[i7,je] at hi;cases hb':binds.lookup y with
  | none=>rw[hb'] at hi;cases hi
  | some v'=>rw[hb'] at hi;simp only[i7,je] at hi;have hkl:k=.local:=kr ((aT nd hn).symm.trans (hl (y,v') (mem_of_lookup hb')));subst hkl;refine⟨y,.local,by rw[hs];exact hn,.inl ⟨rfl,v',?_,hi⟩⟩;refine fM ?_ (List.mem_reverse.mpr (mem_of_lookup hb'));rw[jl];exact(List.reverse_perm _).nodup_iff.mpr hb
noncomputable def vh:Row:=⟨1174,1,List.replicate 26 none,List.replicate 27 false,sD⟩
theorem tQ:vh∈tab:=g4 (i:=102) rfl
theorem Fj:((fnAt wd.params 1174).scope.names.all λx=>x.2 !=.cell)=true:=by kernel_rfl
theorem AZ:(fnAt wd.params 1174).closure=[]:=by kernel_rfl
theorem qQ{a:Ad}{o:PO}(h:upd (upd (λq=>none) 1122 (.tab [])) 1164 (.tab []) a=some o):o=.tab []/\a∈([1122,1164]:List Ad):=by
 by_cases e:a=1164
 ·subst e;rw[aA] at h;obtain rfl:=kr h;exact⟨rfl,()⟩
 ·rw[aD e] at h
  by_cases e':a=1122
  ·subst e';rw[aA] at h;obtain rfl:=kr h;exact⟨rfl,()⟩
  ·rw[aD e'] at h;cases h
variable{sO aF:Sh}{mg mb:Str->Op Va}
theorem sy(y:YP wd aF.heap){a:Ad}{o:Obj}(ha:a<1175)(g:((HA.B0 wd.params).get a).bind alive=some o):aF.heap.get? a=some o:=y _ _ (Iu ha g)
theorem zP(y:YP wd aF.heap){a:Ad}(ha:a∈([1122,1164]:List Ad)):aF.heap.get? a=some (tabObj #[]):=by
 have h:=OS wd.params;have h1:=(List.cons.inj h).1;have h2:=(List.cons.inj (List.cons.inj h).2).1;rcases ku ha with e|e
 ·rw[e];exact sy y () h1
 ·rw[cu e];exact sy y () h2
theorem MO(y:YP wd aF.heap)(hs:∃ (vs:List Va) (n:Nat),aF.heap.get? wj=some (listOf vs.toArray n)/\vs.map ab=Jq.map λi=>.int i 0):nY wj=some (.list (0,0) (Jq.map λi=>.int i 0))/\wj∉([1122,1164]:List Ad)/\∀ a o,nY a=some o->cZ (hideAll aF.heap [1122,1164]) (λj=>none) 0 a o:=by
 obtain⟨vs,n,e,hv⟩:=hs;have tn:∀ a∈tups,aF.heap.get? a=some (HA.t (JS (jF wd.params a))):=λa ha=>sy y ((by decide +kernel:∀ a∈tups,a<1175) a ha) (List.map_inj_left.mp (Lz wd.params) a ha);have dn:aF.heap.get? 789=some (HA.dc (jL (jF wd.params 789)) (E4 (jF wd.params 789))):=sy y () (Rp _);have en:aF.heap.get? 792=some (HA.dc (jL (jF wd.params 792)) (E4 (jF wd.params 792))):=sy y () (Rq _);have c:∀{o:Obj},aF.heap.get? wj=some o->o.cls=.type "list":=λh=>by rw[e] at h;obtain rfl:=kr h;rfl
 have n1:wj∉tups:=λh=>by have:=c (tn _ h);injection this with q;exact absurd q ()
 have n2:wj≠789:=λh=>by have:=c (h▸dn);injection this with q;exact absurd q ()
 have n3:wj≠792:=λh=>by have:=c (h▸en);injection this with q;exact absurd q ()
 have n4:wj∉([1122,1164]:List Ad):=λh=>by have:=c (zP y h);cases this
 have el:∀{a},a∉tups->a≠789->a≠792->nY a=if a=wj then some (.list (0,0) (Jq.map λi=>.int i 0)) else none:=λ{a} h1 h2 h3=>by unfold tups at h1;simp only[kh,gk,or_false,not_or] at h1;obtain⟨q1,q2,q3,q4,q5,q6,q7,q8,q9⟩:=h1;unfold nY;rw[aa q1,aa h2,aa h3,aa q2,aa (by simp [q3,q4,q5]),aa (by simp [q6,q7,q8]),aa q9]
 refine⟨by rw[el n1 n2 n3,ai rfl],n4,λa o h=>?_⟩;have hid:∀{a o},a∉([1122,1164]:List Ad)->aF.heap.get? a=some o->(hideAll aF.heap [1122,1164]).get? a=some o:=λh e=>br _ e h;by_cases h1:a∈tups
 ·have r:=List.map_inj_left.mp (Ly wd.params) a h1
  rw[h] at r;obtain rfl:=kr r;exact⟨_,0,hid ((by decide +kernel:∀ a∈tups,a∉([1122,1164]:List Ad)) a h1) (tn a h1),rfl⟩
 by_cases h2:a=789
 ·subst h2
  rw[<-Ru wd.params] at h;obtain rfl:=kr h;refine⟨⟨_,_,hid () dn,(by rw[Rr];exact DP ⋯),by rw[ir];rfl⟩,λq=>absurd q ()⟩
 by_cases h3:a=792
 ·subst h3
  rw[<-Rv wd.params] at h;obtain rfl:=kr h;refine⟨⟨_,_,hid () en,(by rw[Rt];exact DP ⋯),by rw[ir];rfl⟩,λq=>absurd q ()⟩
 rw[el h1 h2 h3] at h;by_cases h4:a=wj
 ·subst h4
  rw[ai rfl] at h;obtain rfl:=kr h;exact⟨vs,n,hid n4 e,hv⟩
 ·rw[aa h4] at h;cases h
section
noncomputable def JF:Op Ad->Va
 | none=>.none
 | some a=>.ref a
noncomputable def jG:Op Str->Va
 | none=>.none
 | some s=>.str s 0
theorem zv(o:Op Ad):handedIn (JF o)=true:=by cases o<;>rfl
theorem tY(o:Op Str):handedIn (jG o)=true:=by cases o<;>rfl
theorem jP(o:Op Ad):lA (JF o)=true:=by cases o<;>rfl
theorem mP(o:Op Str):lA (jG o)=true:=by cases o<;>rfl
noncomputable def par(i:Nat):Op Nat:=(([none,some 0,some 1,some 2,none,none,none,some 1,some 1,some 1,some 9,some 10,some 1,some 12,some 12,none,none,some 3,some 17,some 18,some 19,some 19]:List (Op Nat))[i]?).join
noncomputable def gM(i:Nat):Bool:=!([4,5,6,15,16]:List Nat).contains i
noncomputable def qx(i:Nat):Nat:=if gM i then 3 else 2
noncomputable def gW(i:Nat):Op Nat:=([(17,0),(18,1),(19,12),(20,13),(21,14)]:List (Nat × Nat)).lookup i
noncomputable def cV(i:Nat):Op Nat:=([(0,17),(1,18),(12,19),(13,20),(14,21)]:List (Nat × Nat)).lookup i
noncomputable def nat(i:Nat):Op Str:=([(0,"BasicObject"),(1,"Object"),(2,"Module"),(3,"Class"),(4,"Kernel"),(5,"Comparable"),(6,"Enumerable"),(7,"String"),(8,"Array"),(9,"Exception"),(10,"StandardError"),(11,"NameError"),(17,"BasicObject."),(18,"Object.")]:List (Nat × Str)).lookup i
noncomputable def qO(i:Nat):Op Str:=if i<12 then nat i else none
noncomputable def wu(i:Nat):List Nat:=if i=1 then [4] else if i=7 then [5] else if i=8 then [6] else []
abbrev Ent:=Op (Int × Str)
structure Co where
 mt:List (Str × Ent)
 ct:List (Str × Int)
 mx:List Nat
 ah:List Nat
structure Cont where
 ex:Nat->Bool
 lk:Nat->Bool
 c:Nat->Co
structure Wc where
 W:Ad
 nd:Ad
 pd:Ad
 si:Ad
 gO:Ad
 gl:Ad
 ot:Ad
 ready:Bool
 mn:Op Ad
structure lE where
 ad:Nat->Op Ad
 num:Nat->Int
noncomputable def miss(A:lE):Nat:=(List.range 12).countP λi=>(A.ad i).isNone
structure Nm where
 N:Int
 V:Int
 cv:Int
 md:List (Str × Va)
structure yt where
 nm:Str
 ow:Ad
 nt:Ad
structure Kp where
 fd:Ad
 md:Ad
 cd:Ad
 xd:Ad
 ad:Ad
 tg:Nat × Nat
 ea:Str->Ad
 er:Str->yt
 kp:Op (Ad × Ad × Int × List Nat)
noncomputable def RU:Op Ad->List (Nat × Va)
 | none=>[]
 | some a=>[(41,.ref a)]
noncomputable def s8(w:Wc)(n:Nm):List (Nat × Va):=(27,.ref w.nd)::(28,.ref w.pd)::(29,.none)::(30,.int 20000 0)::(31,.int 0 0)::(32,.int n.N 0)::(33,.int 8 0)::(34,.ref w.si)::(35,.ref w.gO)::(36,.int n.V 0)::(37,.int n.cv 0)::(38,.ref w.gl)::(39,.ref w.ot)::(40,.bool w.ready)::RU w.mn
theorem qL(w:Wc)(n:Nm):(s8 w n).length<900:=by unfold s8;cases w.mn<;>exact bl
noncomputable def Ua:Ent->Str
 | none=>"none"
 | some _=>"native"
noncomputable def T9:Ent->Va
 | none=>.none
 | some q=>.int q.1 0
noncomputable def UZ:Ent->Str
 | none=>"public"
 | some q=>q.2
noncomputable def tK(d:Ent)(r:yt):List (Nat × Va):=[(6,.str r.nm 0),(1,.ref r.ow),(21,.str (Ua d) 0),(22,.none),(23,T9 d),(24,.str (UZ d) 0),(25,.ref r.nt),(26,.none)]
noncomputable def lE.rf(A:lE)(o:Op Nat):Va:=JF (o.bind A.ad)
noncomputable def lE.dD(A:lE)(l:List Nat):List Va:=l.map λj=>A.rf (some j)
noncomputable def Kp.kv(k:Kp):Va:=JF (k.kp.map (·.1))
noncomputable def Pg(A:lE)(i:Nat):Bool->Va
 | true=>A.rf (cV i)
 | false=>.none
noncomputable def lT(A:lE)(lk:Bool)(i:Nat)(k:Kp):List (Nat × Va):=[(0,.int (A.num i) 0),(1,A.rf (some (qx i))),(2,.ref k.fd),(3,Pg A i lk),(4,.bool false),(5,.none),(6,jG (qO i)),(7,.bool (gM i)),(8,A.rf (par i)),(9,.none),(10,.ref k.md),(11,.ref k.cd),(12,.ref k.xd),(13,.ref k.ad),(14,A.rf (gW i)),(15,jG (nat i)),(16,k.kv)]
noncomputable def mQ(C:Cont)(i:Nat):List Nat:=(C.c i).ah.reverse++i::(C.c i).mx.reverse
noncomputable def mq(behind:List Nat):Nat->List Nat->List Nat->List Nat
 | _,[],found=>found
 | c,x::r,found=>mq behind (c-1) r (if !found.contains x&&(decide (0<c)||!behind.contains x) then found++[x] else found)
noncomputable def eK(C:Cont)(behind:List Nat)(i:Nat):List Nat:=
 let found:=mq behind (C.c i).ah.length (mQ C i) []
 found++behind.filter λx=>!found.contains x
noncomputable def jO(C:Cont):Nat->Nat->List Nat
 | 0,_=>[]
 | k+1,i=>eK C (match par i with
   | some p=>jO C k p
   | none=>[]) i
noncomputable def aX(C:Cont)(i:Nat):List Nat:=jO C 12 i
abbrev Tag:=Nat × Nat
theorem yd{a b:PO}(h:Nat.beq a.ctorIdx b.ctorIdx=false:=by rfl):a≠b:=λe=>by rw[e,Nat.beq_refl] at h;exact lH h
theorem eY{a b i j:Nat}(h:a≠b:=by decide):((a,i):Tag)≠(b,j):=λe=>h (aj Prod.fst e)
abbrev eT:=Ad->Op Tag
noncomputable def refsOf(C:Cont)(i:Nat):List Nat:=qx i::((par i).toList++(gW i).toList++(C.c i).mx++(C.c i).ah++(if C.lk i then(cV i).toList else []))
structure EH(P:PH)(A:lE)(C:Cont)(h:eT)(V:Int)(i:Nat)(a:Ad)(k:Kp):Prop where
 at_:P a=some (.inst 228 (lT A (C.lk i) i k))
 fd:P k.fd=some (.dict (0,0) [])
 md:P k.md=some (.dict k.tg ((C.c i).mt.map λq=>(q.1,.ref (k.ea q.1))))
 cd:P k.cd=some (.dict (0,0) ((C.c i).ct.map λq=>(q.1,.int q.2 0)))
 xd:P k.xd=some (.list (0,0) (A.dD (C.c i).mx))
 ad:P k.ad=some (.list (0,0) (A.dD (C.c i).ah))
 ent:∀ q∈(C.c i).mt,P (k.ea q.1)=some (.inst 256 (tK q.2 (k.er q.1)))/\h (k.ea q.1)=some (9,99)
 kp:∀ kt kl v ln,k.kp=some (kt,kl,v,ln)->(P kt=some (.tup [.int v 0,.ref kl])/\P kl=some (.list (0,0) (A.dD ln))/\h kt=some (7,99)/\h kl=some (8,99))/\v<=V/\(v=V->ln=aX C i)/\∀ j∈ln,∃ b,A.ad j=some b
 oa:h a=some (0,i)
 of:h k.fd=some (5,i)
 om:h k.md=some (1,i)
 oc:h k.cd=some (2,i)
 ox:h k.xd=some (3,i)
 od:h k.ad=some (4,i)
noncomputable def oG:List (List Nat):=[[],[15],[16],[15,16],[16,15]]
noncomputable def OA:List (List Nat):=oG++[[4],[5],[6]]
noncomputable def bH:List Str:=["x","y","z","w","K","L"]
structure jV(C:Cont):Prop where
 base:∀ i,i<12\/14<i->(C.c i).ct=[]/\(C.c i).mx=wu i/\(C.c i).ah=[]
 BS:∀ i,i<12\/15<i/\i<19->(C.c i).mt=[]
 us:∀ i,(C.c i).mx∈OA/\(C.c i).ah∈OA
 u5:∀ i,12<=i->(C.c i).mx∈oG/\(C.c i).ah∈oG
 nd:∀ i,((C.c i).mt.map (·.1)).Nodup/\∀ q∈(C.c i).mt,q.1∈bH
 nc:∀ i,((C.c i).ct.map (·.1)).Nodup/\∀ q∈(C.c i).ct,q.1∈bH
structure Core(w:Wc)(C:Cont)(S:List Nat)(P:PH)(A:lE)(h:eT)(n:Nm)(kp:Nat->Kp):Prop where
 W:P w.W=some (.inst 1055 (s8 w n))
 gO:P w.gO=some (.dict (0,0) n.md)
 nd:P w.nd=some (.dict (0,0) [])
 pd:P w.pd=some (.dict (0,0) [])
 vC:n.md.length+miss A<=12
 w5:∀ q∈n.md,q.1.length<big
 vB:∀ i x,qO i=some x->aR x n.md=(A.ad i).map .ref
 mod:∀ i a,A.ad i=some a->i∉S->EH P A C h n.V i a (kp i)
 ref:∀ i a,A.ad i=some a->i∉S->∀ j∈refsOf C i,∃ b,A.ad j=some b
 inj:∀ i j a b,A.ad i=some a->A.ad j=some b->A.num i=A.num j->i=j
 le:∀ i a,A.ad i=some a->A.num i<=n.N/\i<22
 lk:∀ i,C.lk i=true->∃ a,A.ad i=some a
 ex:∀ i,12<=i->(A.ad i).isSome=C.ex i
 wf:jV C
 oW:h w.W=some (5,50)
 om:h w.gO=some (6,50)
 on:h w.nd=some (7,50)
 op:h w.pd=some (7,50)
 rO:∀ c t,h c=some t->∃ o,P c=some o/\o.bR=false
structure Z(w:Wc)(C:Cont)(S:List Nat) where
 P:PH
 A:lE
 h:eT
 n:Nm
 kp:Nat->Kp
 K:Core w C S P A h n kp
def Fr(P:PH)(h:eT)(P':PH)(h':eT):Prop:=∀ c o,P c=some o->o.bR=false->(h c=none\/∃ t,h c=some (t,99))->P' c=some o/\h' c=h c
structure Le{w w':Wc}{C C':Cont}{S S':List Nat}(z:Z w C S)(z':Z w' C' S'):Prop where
 fr:Fr z.P z.h z'.P z'.h
 ad:∀ i a,z.A.ad i=some a->z'.A.ad i=some a/\z'.A.num i=z.A.num i
theorem Fr.refl(P:PH)(h:eT):Fr P h P h:=λj j q j j=>⟨q,rfl⟩
theorem Fr.trans{P P' BR:PH}{h h' h'':eT}(a:Fr P h P' h')(b:Fr P' h' BR h''):Fr P h BR h'':=λc o q l k=>
 have x:=a c o q l k;have y:=b c o x.1 l (x.2▸k)
 ⟨y.1,y.2.trans x.2⟩
section
variable{w w' w'':Wc}{C C' C'':Cont}{S S' qM:List Nat}{z:Z w C S}{z':Z w' C' S'}{z'':Z w'' C'' qM}
theorem Le.refl(z:Z w C S):Le z z:=⟨Fr.refl z.P z.h,λq q h=>⟨h,rfl⟩⟩
theorem Le.trans(a:Le z z')(b:Le z' z''):Le z z'':=⟨a.fr.trans b.fr,λi x h=>⟨(b.ad i x (a.ad i x h).1).1,(b.ad i x (a.ad i x h).1).2.trans (a.ad i x h).2⟩⟩
theorem Core.keep{P P':PH}{A:lE}{h:eT}{n:Nm}{kp:Nat->Kp}(K:Core w C S P A h n kp)(hP:∀ c o t,h c=some t->P c=some o->o.bR=false->P' c=some o):Core w C S P' A h n kp:=
 {W:=hP _ _ _ K.oW K.W rfl,gO:=hP _ _ _ K.om K.gO rfl,nd:=hP _ _ _ K.on K.nd rfl,pd:=hP _ _ _ K.op K.pd rfl
  mod:=λi a e s=>have M:=K.mod i a e s
   {at_:=hP _ _ _ M.oa M.at_ rfl,fd:=hP _ _ _ M.of M.fd rfl,md:=hP _ _ _ M.om M.md rfl,cd:=hP _ _ _ M.oc M.cd rfl,xd:=hP _ _ _ M.ox M.xd rfl,ad:=hP _ _ _ M.od M.ad rfl
    ent:=λq hq=>⟨hP _ _ _ (M.ent q hq).2 (M.ent q hq).1 rfl,(M.ent q hq).2⟩
    kp:=λkt kl v ln e=>have k:=M.kp kt kl v ln e;⟨⟨hP _ _ _ k.1.2.2.1 k.1.1 rfl,hP _ _ _ k.1.2.2.2 k.1.2.1 rfl,k.1.2.2⟩,k.2⟩
    oa:=M.oa,of:=M.of,om:=M.om,oc:=M.oc,ox:=M.ox,od:=M.od }
  vC:=K.vC,w5:=K.w5,vB:=K.vB,ref:=K.ref,inj:=K.inj,le:=K.le,lk:=K.lk,ex:=K.ex,wf:=K.wf,oW:=K.oW,om:=K.om,on:=K.on,op:=K.op
  rO:=λc t q=>have r:=K.rO c t q;r.elim λo ho=>⟨o,hP c o t q ho.1 ho.2,ho.2⟩ }
theorem Z.un(z:Z w C S){e:Ad}(he:z.P e=none):z.h e=none:=by
 cases q:z.h e with
 | none=>rfl
 | some t=>exact(z.K.rO e t q).elim λo ho=>by rw[he] at ho;cases ho.1
noncomputable def Z.put(z:Z w C S)(e:Ad)(o:PO)(he:z.h e=none):Z w C S:=⟨upd z.P e o,z.A,z.h,z.n,z.kp,z.K.keep λc o' t q q' j=>(aD λx=>by rw[x,he] at q;cases q).trans q'⟩
noncomputable def Z.new(z:Z w C S)(e:Ad)(o:PO)(he:z.P e=none):Z w C S:=z.put e o (z.un he)
theorem cS{P:PH}{a:Ad}{o:PO}(h:P a=some o)(q:o.bR=false):bJ P a=some o:=by unfold bJ;rw[h];show(if o.bR=true then none else some o)=_;rw[q];rfl
noncomputable def Z.drop(z:Z w C S):Z w C S:=⟨bJ z.P,z.A,z.h,z.n,z.kp,z.K.keep λj j j j q' q=>cS q' q⟩
def Nw(z:Z w C S)(e:Ad):Prop:=∀ o,z.P e=some o->o.bR=false->(z.h e=none\/∃ t,z.h e=some (t,99))->False
theorem Nw.none(z:Z w C S){e:Ad}(h:z.P e=none):Nw z e:=λo q j j=>by rw[h] at q;cases q
theorem Nw.of(a:Le z z'){e:Ad}(h:Nw z' e):Nw z e:=λo q l k=>have x:=a.fr e o q l k;h o x.1 l (x.2▸k)
theorem Le.put(a:Le z z'){e:Ad}(o:PO)(he:Nw z e)(he':z'.h e=none):Le z (z'.put e o he'):=⟨λc o' q l k=>⟨(aD λx=>by subst x;exact he o' q l k).trans (a.fr c o' q l k).1,(a.fr c o' q l k).2⟩,a.ad⟩
noncomputable def Z.alt(z:Z w C S){e:Ad}(he:z.h e=none)(P':PH)(al:∀ c,c≠e->P' c=z.P c):Z w C S:=⟨P',z.A,z.h,z.n,z.kp,z.K.keep λc o' t q q' j=>(al c λx=>by rw[x,he] at q;cases q).trans q'⟩
theorem Le.alt(a:Le z z'){e:Ad}(he:Nw z e)(he':z'.h e=none)(P':PH)(al:∀ c,c≠e->P' c=z'.P c):Le z (z'.alt he' P' al):=⟨λc o' q l k=>⟨(al c λx=>by subst x;exact he o' q l k).trans (a.fr c o' q l k).1,(a.fr c o' q l k).2⟩,a.ad⟩
theorem Le.new(a:Le z z'){e:Ad}(o:PO)(he':z'.P e=none):Le z (z'.new e o he'):=a.trans
 ⟨λc o' q l k=>⟨(aD λx=>by rw[x,he'] at q;cases q).trans q,rfl⟩,λj j h=>⟨h,rfl⟩⟩
theorem Le.drop(a:Le z z'):Le z z'.drop:=a.trans ⟨λc o q l j=>⟨cS q l,rfl⟩,λj j h=>⟨h,rfl⟩⟩
theorem Z.at_(z:Z w C S){i:Nat}{a:Ad}(h:z.A.ad i=some a)(hs:i∉S):z.P a=some (.inst 228 (lT z.A (C.lk i) i (z.kp i))):=(z.K.mod i a h hs).at_
end
end
section
variable{w w' w'':Wc}{C C' C'':Cont}{S S' qM:List Nat}{A A':lE}{h h':eT}{V V':Int}{i:Nat}{a:Ad}{k:Kp}
theorem Es(hA:∀ j b,A.ad j=some b->A'.ad j=some b/\A'.num j=A.num j){j:Nat}(e:∃ b,A.ad j=some b):A'.rf (some j)=A.rf (some j):=e.elim λb q=>by unfold lE.rf;rw[jv,jv,q,(hA j b q).1]
theorem pJ(hA:∀ j b,A.ad j=some b->A'.ad j=some b/\A'.num j=A.num j){o:Op Nat}(e:∀ j∈o.toList,∃ b,A.ad j=some b):A'.rf o=A.rf o:=by
 cases o with
 | none=>rfl
 | some j=>exact Es hA (e j (by rw[Option.toList_some];exact .head _))
theorem zF(hA:∀ j b,A.ad j=some b->A'.ad j=some b/\A'.num j=A.num j){l:List Nat}(e:∀ j∈l,∃ b,A.ad j=some b):A'.dD l=A.dD l:=jy λj hj=>Es hA (e j hj)
theorem tU(C:Cont)(i:Nat):qx i∈refsOf C i:=.head _
theorem iO{j:Nat}(h:j∈(par i).toList):j∈refsOf C i:=jd _ (fh _ (fh _ (fh _ (fh _ h))))
theorem zh{j:Nat}(h:j∈(gW i).toList):j∈refsOf C i:=jd _ (fh _ (fh _ (fh _ (fq _ h))))
theorem vt{j:Nat}(h:j∈(C.c i).mx):j∈refsOf C i:=jd _ (fh _ (fh _ (fq _ h)))
theorem vq{j:Nat}(h:j∈(C.c i).ah):j∈refsOf C i:=jd _ (fh _ (fq _ h))
theorem I7{j:Nat}(l:C.lk i=true)(h:cV i=some j):j∈refsOf C i:=jd _ (fq _ (by rw[l,h];exact .head _))
theorem mem_some{j:Nat}{o:Op Nat}(h:o=some j):j∈o.toList:=by rw[h];exact .head _
theorem I8{lk':Bool}(hA:∀ j b,A.ad j=some b->A'.ad j=some b/\A'.num j=A.num j)(ha:A.ad i=some a)(hr:∀ j∈refsOf C i,∃ b,A.ad j=some b)(l:lk'=C.lk i):lT A' lk' i k=lT A (C.lk i) i k:=by
 subst l;unfold lT
 have hO:Pg A' i (C.lk i)=Pg A i (C.lk i):=by
  cases q:C.lk i with
  | false=>rfl
  | true=>exact pJ hA λj hj=>hr j (I7 q (Option.mem_toList.mp hj))
 rw[(hA i a ha).2,Es hA (hr _ (tU ..)),hO,pJ hA λj hj=>hr j (iO hj),pJ (o:=gW i) hA λj hj=>hr j (zh hj)]
theorem EH.move(M:EH P A C h V i a k)(ha:A.ad i=some a)(hr:∀ j∈refsOf C i,∃ b,A.ad j=some b)
  (hP:∀ c o t,h c=some t->t.2=i\/t.2=99->P c=some o->o.bR=false->P' c=some o/\h' c=some t)
  (hA:∀ j b,A.ad j=some b->A'.ad j=some b/\A'.num j=A.num j) (hl:C'.lk i=C.lk i) (hc:C'.c i=C.c i) (hV:V<=V') (hL:V'=V->aX C' i=aX C i):EH P' A' C' h' V' i a k:=
 have p1:=hP _ _ _ M.oa (.inl rfl) M.at_ rfl;have p2:=hP _ _ _ M.of (.inl rfl) M.fd rfl;have p3:=hP _ _ _ M.om (.inl rfl) M.md rfl;have p4:=hP _ _ _ M.oc (.inl rfl) M.cd rfl;have p5:=hP _ _ _ M.ox (.inl rfl) M.xd rfl;have p6:=hP _ _ _ M.od (.inl rfl) M.ad rfl
 {at_:=by rw[I8 hA ha hr hl];exact p1.1
  fd:=p2.1,md:=by rw[hc];exact p3.1,cd:=by rw[hc];exact p4.1
  xd:=by rw[hc,zF hA λj hj=>hr j (vt hj)];exact p5.1
  ad:=by rw[hc,zF hA λj hj=>hr j (vq hj)];exact p6.1
  ent:=λq hq=>by rw[hc] at hq;exact hP _ _ _ (M.ent q hq).2 (.inr rfl) (M.ent q hq).1 rfl
  kp:=λkt kl v ln e=>
   have q:=M.kp kt kl v ln e;have q1:=hP _ _ _ q.1.2.2.1 (.inr rfl) q.1.1 rfl;have q2:=hP _ _ _ q.1.2.2.2 (.inr rfl) q.1.2.1 rfl
   ⟨⟨q1.1,by rw[zF hA q.2.2.2];exact q2.1,q1.2,q2.2⟩,jt q.2.1 hV,λe=>by have e2:V'=V:=Int.le_antisymm (e▸q.2.1) hV;rw[hL e2];exact q.2.2.1 (e.trans e2),λj hj=>(q.2.2.2 j hj).imp λb x=>(hA j b x).1⟩
  oa:=p1.2,of:=p2.2,om:=p3.2,oc:=p4.2,ox:=p5.2,od:=p6.2 }
noncomputable def Z.iB(z:Z w C S)(N V cv:Int)(hN:z.n.N<=N)(hV:z.n.V<=V):Z w C S where
 P:=upd z.P w.W (.inst 1055 (s8 w ⟨N,V,cv,z.n.md⟩))
 A:=z.A
 h:=z.h
 n:=⟨N,V,cv,z.n.md⟩
 kp:=z.kp
 K:=
  have K:=z.K;have ne:∀{c o t},z.h c=some t->t≠(5,50)->z.P c=some o->upd z.P w.W (.inst 1055 (s8 w ⟨N,V,cv,z.n.md⟩)) c=some o:=λq r p=>(aD λx=>r (by subst x;exact kr (q.symm.trans K.oW))).trans p
  {W:=aA ..,gO:=ne K.om () K.gO,nd:=ne K.on () K.nd,pd:=ne K.op () K.pd,vC:=K.vC,w5:=K.w5,vB:=K.vB
   mod:=λi a e s=>(K.mod i a e s).move e (K.ref i a e s) (λc o t q r p y=>⟨ne q (λx=>by
    subst x;rcases r with r|r
    ·exact absurd (K.le i a e).2 (by rw[<-r];decide)
    ·cases r) p,q⟩) (λj b q=>⟨q,rfl⟩) rfl rfl hV λy=>rfl
   ref:=K.ref,inj:=K.inj,le:=λi a e=>⟨jt (K.le i a e).1 hN,(K.le i a e).2⟩,lk:=K.lk,ex:=K.ex,wf:=K.wf,oW:=K.oW,om:=K.om,on:=K.on,op:=K.op
   rO:=λc t q=>by
    by_cases x:c=w.W
    ·exact⟨_,by rw[x];exact aA ..,rfl⟩
    ·obtain⟨o,h1,h2⟩:=K.rO c t q
     exact⟨o,(aD x).trans h1,h2⟩ }
end
section
variable{m:Nat}{X:XP}{Q:VQ}{w:Wc}{C:Cont}{S:List Nat}(z:Z w C S){i j:Nat}{a b:Ad}
theorem Le.iB{w':Wc}{C':Cont}{S':List Nat}{z':Z w' C' S'}{z:Z w C S}(l:Le z' z){N V cv:Int}(hN:z.n.N<=N)(hV:z.n.V<=V):Le z' (z.iB N V cv hN hV):=l.trans
 ⟨λc o q j k=>⟨(aD λx=>by rw[x,z.K.oW] at k;rcases k with k|⟨t,k⟩<;>cases k).trans q,rfl⟩,λj j h=>⟨h,rfl⟩⟩
theorem jA(ha:z.A.ad i=some a)(hb:z.A.ad j=some b)(hi:i∉S)(hj:j∉S)(hq:Q (.bool (decide (i=j))) z.P):Calls (m+2) 281 [.ref a,.ref b] z.P X Q:=by refine Ot (z.at_ ha hi) rfl rfl rfl (z.at_ hb hj) rfl rfl rfl ?_;rw[show decide (z.A.num i=z.A.num j)=decide (i=j) from decide_eq_decide.mpr ⟨z.K.inj i j a b ha hb,λq=>aj _ q⟩];exact hq
theorem VU{A:lE}{i:Nat}{a:Ad}(h:z.A.ad i=some a)(hs:i∉S):isNone (z.A.rf (gW i))=(gW i).isNone:=by
 cases q:gW i with
 | none=>rfl
 | some j=>obtain⟨b,e⟩:=z.K.ref i a h hs j (zh (mem_some q));unfold lE.rf;rw[jv,e];rfl
theorem mz(ha:z.A.ad i=some a)(hs:i∉S)(hq:Q (.bool (!(gW i).isNone)) z.P):Calls (m+1) 225 [.ref a] z.P X Q:=aB 7 rfl rfl rfl (aG (z.at_ ha hs) rfl rfl (zv _) ⟨jP _,by rw[VU (A:=z.A) z ha hs];exact hq⟩)
theorem iZ(hq:Q (.int (z.n.N+1) 0) (z.iB (z.n.N+1) z.n.V z.n.cv (g5 (eu _)) (eu _)).P):Calls (m+1) 836 [.ref w.W] z.P X Q:=aB 68 rfl rfl rfl (aG z.K.W rfl rfl rfl (bQ z.K.W rfl (qL w z.n) (aG (aA ..) rfl rfl rfl hq)))
theorem fQ(hq:Q .none (z.iB z.n.N (z.n.V+1) z.n.cv (eu _) (g5 (eu _))).P):Calls (m+1) 530 [.ref w.W] z.P X Q:=aB 33 rfl rfl rfl (aG z.K.W rfl rfl rfl (bQ z.K.W rfl (qL w z.n) hq))
end
theorem sj{Ph:PH}{a:Ad}{t:Nat × Nat}{vs:List Va}(h:Ph a=some (.list t vs)):(match Ph a with
 | some (.list ..)=>True
 | _=>False):=by rw[h];trivial
theorem mH{Ph:PH}{a:Ad}{t:Nat × Nat}{kvs:List (Str × Va)}(h:Ph a=some (.dict t kvs)):(match Ph a with
 | some (.dict ..)=>True
 | _=>False):=by rw[h];trivial
def Pu(P P':PH):Prop:=∀ c o,P c=some o->P' c=some o
theorem Pu.refl(P:PH):Pu P P:=λq q h=>h
theorem Pu.trans{P P' BR:PH}(a:Pu P P')(b:Pu P' BR):Pu P BR:=λc o h=>b c o (a c o h)
theorem Pu.un{P P':PH}(a:Pu P P'){e:Ad}(h:P' e=none):P e=none:=by
 cases q:P e with
 | none=>rfl
 | some o=>rw[a e o q] at h;cases h
theorem Pu.new{P P':PH}(a:Pu P P'){e:Ad}(o:PO)(he:P' e=none):Pu P (upd P' e o):=λc o' h=>aI (a c o' h) he
theorem Pu.put{P P':PH}(a:Pu P P'){e:Ad}(o:PO)(he:P e=none):Pu P (upd P' e o):=λc o' h=>(aD λx=>by rw[x,he] at h;cases h).trans (a c o' h)
noncomputable def Z.pu{w:Wc}{C:Cont}{S:List Nat}(z:Z w C S)(P':PH)(p:Pu z.P P'):Z w C S:=⟨P',z.A,z.h,z.n,z.kp,z.K.keep λc o j j q j=>p c o q⟩
theorem Le.pu{w w':Wc}{C C':Cont}{S S':List Nat}{z:Z w C S}{z':Z w' C' S'}(a:Le z z')(P':PH)(p:Pu z'.P P'):Le z (z'.pu P' p):=a.trans ⟨λc o q j j=>⟨p c o q,rfl⟩,λj j h=>⟨h,rfl⟩⟩
theorem nn{i:Nat}:i∉([]:List Nat):=gk
theorem JI{α:Type}[DecidableEq α]:∀{l L:List α},l.Nodup->(∀ x∈l,x∈L)->l.length<=L.length:=by
 intro rr;induction rr with
 | nil=>exact @λq q q=>j5 _
 | cons x l ih=>intro L hn hs;have h1:=ih (dj hn).2 λy hy=>(List.mem_erase_of_ne λe=>(dj hn).1 (by subst e;exact hy)).mpr (hs y (.tail _ hy));rw[List.length_erase_of_mem (hs x (.head _))] at h1;have h2:=List.length_pos_of_mem (hs x (.head _));rw[i9];lia
section
variable{w:Wc}{C:Cont}{A:lE}{i j:Nat}
theorem jV.Jd(W:jV C)(i:Nat):(C.c i).mt.length<=6:=by
 have:=JI (W.nd i).1 (L:=bH) λx hx=>(List.mem_map.mp hx).elim λq hq=>hq.2▸(W.nd i).2 q hq.1
 rwa [ef] at this
theorem jV.Tn(W:jV C)(i:Nat):(C.c i).ct.length<=6:=by
 have:=JI (W.nc i).1 (L:=bH) λx hx=>(List.mem_map.mp hx).elim λq hq=>hq.2▸(W.nc i).2 q hq.1
 rwa [ef] at this
theorem cK:∀ l∈OA,l.length<=2:=⋯
theorem DK:∀ l∈OA,∀ j∈l,(j<12\/14<j)/\wu j=[]/\gM j=false/\par j=none:=⋯
theorem jV.pl(W:jV C)(h:j∈(C.c i).mx\/j∈(C.c i).ah):(C.c j).mx=[]/\(C.c j).ah=[]:=by have q:=h.elim (DK _ (W.us i).1 j) (DK _ (W.us i).2 j);exact⟨(W.base j q.1).2.1.trans q.2.1,(W.base j q.1).2.2⟩
theorem fT(l:List Nat):(A.dD l).length=l.length:=ef ..
theorem Et(l:List Nat):(A.dD l).reverse=A.dD l.reverse:=(jl ..).symm
theorem lq(l l':List Nat):A.dD l++A.dD l'=A.dD (l++l'):=(i8 ..).symm
theorem aQ{a:Ad}(h:A.ad i=some a):A.rf (some i)=.ref a:=by unfold lE.rf;rw[jv,h];rfl
theorem IZ{step:Va->Lv->PH->(NP)->Prop}{guard:PH->Prop}{k:NP}{Ph:PH}{loc:Op Va->Lv}(I:List Nat->Prop)
  (hg:guard Ph) (h0:I []->∀ v2,k (loc v2) Ph) (h1:∀ j x r v2 (T:NP),A.ad j=some x->I (j::r)->(I r->∀ v2,T (loc v2) Ph)->step (.ref x) (loc v2) Ph T):∀{l:List Nat} {v2:Op Va},(∀ j∈l,∃ b,A.ad j=some b)->I l->cM step guard (A.dD l) (loc v2) Ph k:=by
 intro rr;induction rr with
 | nil=>exact @λv2 q h=>h0 h v2
 | cons x r ih=>exact @λv2 e h=>(e x (.head _)).elim λb hb=>by show cM step guard (A.rf (some x)::A.dD r) (loc v2) Ph k;rw[aQ hb];exact h1 x b r v2 _ hb h λhi v2=>⟨hg,ih (λj hj=>e j (.tail _ hj)) hi⟩
end
section
variable{m:Nat}{X:XP}{Q:VQ}{w:Wc}{C:Cont}(z:Z w C []){i j:Nat}{a b:Ad}
theorem fV{t0:Ad}{t:Nat × Nat}{l:List Nat}(hl:z.P t0=some (.list t (z.A.dD l)))(hm:∀ x∈l,∃ b,z.A.ad x=some b)(ha:z.A.ad i=some a)(hb:l.length<big)(hq:Q (.bool (l.contains i)) z.P):
  Calls (m+3) 450 [.ref t0,.ref a] z.P X Q:=by
 refine aB 24 rfl rfl rfl (cP hl ((fT l).symm▸hb) (IZ (loc:=λv2=>[some (.ref t0),some (.ref a),v2,none]) (λl2=>l2.contains i=l.contains i) hl (λh v2=>?_) (λj x r v2 T hx h ih=>?_) (v2:=none) hm rfl))
 ·rw[<-h] at hq;exact hq
 ·refine jA z hx ha nn nn ?_
  by_cases e:j=i
  ·refine bt (au e) ?_
   rw[<-h,e,List.contains_cons,bg,Bool.true_or] at hq;exact hq
  ·refine bf (av e) (ih ?_ _)
   rw[<-h,List.contains_cons,beq_eq_false_iff_ne.mpr (gz e),Bool.false_or]
theorem mD(ha:z.A.ad i=some a)(hp:(C.c i).mx=[]/\(C.c i).ah=[]){P0:PH}(p:Pu z.P P0)(hq:∀ P' e,Pu P0 P'->P0 e=none->P' e=some (.list (0,0) [.ref a])->Q (.ref e) P'):
  Calls (m+1) 457 [.ref a] P0 X Q:=by refine aB 25 rfl rfl rfl ⟨bl,λe he=>?_⟩;have M:=z.K.mod i a ha nn;have ad:P0 (z.kp i).ad=some (.list (0,0) []):=p _ _ (by have q:=M.ad;rw[hp.2] at q;exact q);have xd:P0 (z.kp i).xd=some (.list (0,0) []):=p _ _ (by have q:=M.xd;rw[hp.1] at q;exact q);refine aG (aI (p _ _ M.at_) he) rfl rfl rfl (zb (aI ad he) bl λe2 uX=>cP (aA ..) bl ?_);have h2:=aI (o:=.list (0,0) []) (aA P0 e (.list (0,0) [])) uX;have p3:Pu P0 (upd (upd (upd P0 e (.list (0,0) [])) e2 (.list (0,0) [])) e (.list (0,0) [.ref a])):=(((Pu.refl P0).new _ he).new _ uX).put _ he;refine⟨sj h2,Cb h2 bl (aG (p3 _ _ (p _ _ M.at_)) rfl rfl rfl (zb (p3 _ _ xd) bl λe4 he4=>cP (aA ..) bl ?_))⟩;exact hq _ e (p3.new _ he4) he (aI (aA ..) he4)
end
section
section
variable{m:Nat}{X:XP}{Q:VQ}{w:Wc}{C:Cont}{i j:Nat}{a b:Ad}
structure Gw(P0 P':PH)(A:lE)(e c2:Ad)(o2:PO)(acc:List Nat):Prop where
 pu:Pu P0 P'
 at_:P' e=some (.list (0,0) (A.dD acc))
 fr:P0 e=none
 c:P' c2=some o2
 ne:c2≠e
theorem Br(z0:Z w C []){e c2:Ad}{o2:PO}{v0 v3:Op Va}{cs:List Bool}{R:VQ}{N:NP}(hcs:cs.getD 2 false=false):
  ∀(l:List Nat) (P':PH) (acc:List Nat) (v2:Op Va),Gw z0.P P' z0.A e c2 o2 acc->(∀ j∈l,(∃ b,z0.A.ad j=some b)/\(C.c j).mx=[]/\(C.c j).ah=[])->acc.length+l.length<5000->(∀ P' v2,Gw z0.P P' z0.A e c2 o2 (acc++l)->N [v0,some (.ref e),v2,v3] P')->cM (λv l P' k=>wpS (m+1) cs (.seq (.expr (.bm .extend (.loc 1) (.cons (.call 457 (.cons (.loc 2) .nil)) .nil))) .skip) (l.set 2 (some v)) (kD cs 2 P') X k R) (λP'=>P' c2=some o2) (z0.A.dD l) [v0,some (.ref e),v2,v3] P' N:=by
 intro rr;induction rr with
 | nil=>exactλP' acc v2 G u u h=>h P' v2 (by rw[jk];exact G)
 | cons j l ih=>
  intro P' acc v2 G hp hl h;obtain⟨⟨b,hb⟩,pl⟩:=hp j (.head _);show cM _ _ (z0.A.rf (some j)::z0.A.dD l) _ _ _;rw[aQ hb];show wpS _ _ _ _ (if cs.getD 2 false=true then bJ P' else P') _ _ _;rw[hcs];refine⟨sj G.at_,mD z0 hb pl G.pu λP2 f p2 (hf:P' f=none) h'=>?_⟩;rw[i9] at hl;have hl':(z0.A.dD acc).length<big:=by rw[fT];unfold big;lia
  refine Ue (p2 _ _ G.at_) h' ⟨λq=>(by rw[<-q,G.at_] at hf;cases hf),hl',bl⟩ ?_;have c':=(aD (P:=P2) (o:=.list (0,0) (z0.A.dD acc++[.ref b])) G.ne).trans (p2 _ _ G.c);refine⟨c',ih _ (acc++[j]) _ ⟨(G.pu.trans p2).put _ G.fr,(aA ..).trans ?_,G.fr,c',G.ne⟩ (λy hy=>hp y (.tail _ hy)) (by rw[gu,jg];lia) λz2 v2 G2=>h z2 v2 ?_⟩
  ·rw[<-lq,<-aQ hb];rfl
  ·rwa [i0] at G2
theorem uN(z:Z w C [])(ha:z.A.ad i=some a){l:List Nat}(hl:l=(C.c i).mx\/l=(C.c i).ah):∀ j∈l,(∃ b,z.A.ad j=some b)/\(C.c j).mx=[]/\(C.c j).ah=[]:=λj hj=>by
 rcases hl with rfl|rfl
 ·exact⟨z.K.ref i a ha nn j (vt hj),z.K.wf.pl (.inl hj)⟩
 ·exact⟨z.K.ref i a ha nn j (vq hj),z.K.wf.pl (.inr hj)⟩
theorem w4{l:List Nat}{A:lE}(h:l.length<=2):(A.dD l).length<big:=k6 (fu (gi (fT l)) h) ()
theorem Qa{l:List Nat}(h:l.length<=2):l.reverse.length<=2:=fu (gi gh) h
theorem Cj(z:Z w C [])(ha:z.A.ad i=some a){P0:PH}(p:Pu z.P P0)(hq:∀ P' e,Pu P0 P'->P0 e=none->P' e=some (.list (0,0) (z.A.dD (mQ C i)))->Q (.ref e) P'):
  Calls (m+2) 457 [.ref a] P0 X Q:=by
 refine aB 25 rfl rfl rfl ⟨bl,λe he=>?_⟩;have M:=z.K.mod i a ha nn;have l1:=cK _ (z.K.wf.us i).2;have l2:=cK _ (z.K.wf.us i).1;let y:=z.pu P0 p;refine aG (aI (p _ _ M.at_) he) rfl rfl rfl (zb (aI (p _ _ M.ad) he) (w4 l1) λe2 uX=>?_);have ne:e2≠e:=λq=>by rw[q] at uX;cases (aA P0 e (.list (0,0) [])).symm.trans uX
 have e1:(z.A.dD (C.c i).ah).reverse=z.A.dD (C.c i).ah.reverse:=Et _;refine cP (aA ..) (by rw[e1];exact w4 (Qa l1)) ?_;rw[e1];refine Br y rfl _ _ [] none ⟨((Pu.refl P0).new _ he).new _ uX,aI (aA ..) uX,he,aA ..,ne⟩ (λj hj=>uN z ha (.inr rfl) j (d8 hj)) (by rw[gh,j3];lia) λP3 v2 G3=>?_;rw[kq] at G3;have p4:Pu P0 (upd P3 e (.list (0,0) (z.A.dD (C.c i).ah.reverse++[.ref a]))):=G3.pu.put _ he;refine⟨sj G3.at_,Cb G3.at_ (w4 (Qa l1)) (aG (p4 _ _ (p _ _ M.at_)) rfl rfl rfl (zb (p4 _ _ (p _ _ M.xd)) (w4 l2) λf hf=>?_))⟩;have nf:f≠e:=λq=>by rw[q] at hf;cases (aA P3 e (.list (0,0) (z.A.dD (C.c i).ah.reverse++[.ref a]))).symm.trans hf
 have e2:(z.A.dD (C.c i).mx).reverse=z.A.dD (C.c i).mx.reverse:=Et _;refine cP (aA ..) (by rw[e2];exact w4 (Qa l2)) ?_;rw[e2];have l3:((C.c i).ah.reverse++[i]).length<=3:=by rw[gu,gh,jg];lia
 refine Br y rfl _ _ ((C.c i).ah.reverse++[i]) v2 ⟨p4.new _ hf,(aI (aA ..) hf).trans ?_,he,aA ..,nf⟩ (λj hj=>uN z ha (.inl rfl) j (d8 hj)) (by rw[gh];lia) λP6 v3 G6=>hq P6 e G6.pu he (G6.at_.trans ?_)
 ·rw[<-lq,<-aQ ha];rfl
 ·rw[i0];rfl
end
end
section
variable{w:Wc}{C C':Cont}{A:lE}{h h':eT}{n n':Nm}{kp:Nat->Kp}{i:Nat}{a:Ad}{k':Kp}
theorem Core.chg(K:Core w C [] P A h n kp)(ha:A.ad i=some a)
  (hP:∀ c o t,h c=some t->t.2≠i->t≠(5,50)->P c=some o->o.bR=false->P' c=some o/\h' c=some t) (hW:P' w.W=some (.inst 1055 (s8 w n'))) (hWh:h' w.W=some (5,50))
  (hs:∀ c t,h' c=some t->∃ o,P' c=some o/\o.bR=false) (hc:∀ j,j≠i->C'.c j=C.c j/\C'.lk j=C.lk j) (hex:C'.ex=C.ex) (wf:jV C') (hV:n.V<=n'.V) (hN:n.N<=n'.N) (hmd:n'.md=n.md)
  (hL:∀ j,j≠i->n'.V=n.V->aX C' j=aX C j) (hr:∀ j∈refsOf C' i,∃ b,A.ad j=some b) (hlk:∀ i,C'.lk i=true->∃ a,A.ad i=some a) (M:EH P' A C' h' n'.V i a k'):Core w C' [] P' A h' n' (λj=>if j=i then k' else kp j):=
 have lt:=(K.le i a ha).2;have n50:∀{t:Tag},t.2=50->t.2≠i:=λe=>by rw[e];intro q;rw[<-q] at lt;exact absurd lt ()
 have n99:∀{t:Tag},t.2=99->t.2≠i:=λe=>by rw[e];intro q;rw[<-q] at lt;exact absurd lt ()
 have d:=hP _ _ _ K.om (n50 rfl) () K.gO rfl;have d1:=hP _ _ _ K.on (n50 rfl) () K.nd rfl;have d2:=hP _ _ _ K.op (n50 rfl) () K.pd rfl
 {W:=hW,gO:=hmd▸d.1,nd:=d1.1,pd:=d2.1,vC:=hmd▸K.vC,w5:=hmd▸K.w5,vB:=hmd▸K.vB
  mod:=λj b e s=>by
   by_cases q:j=i
   ·subst q
    cases ha.symm.trans e;rw[ai rfl];exact M
   ·rw[aa q]
    refine(K.mod j b e s).move e (K.ref j b e s) (λc o t x y p l=>hP c o t x ?_ ?_ p l) (λu u x=>⟨x,rfl⟩) (hc j q).2 (hc j q).1 hV (hL j q)
    ·rcases y with y|y
     ·rw[y];exact q
     ·exact n99 y
    ·intro z;subst z
     rcases y with y|y
     ·exact absurd (K.le j b e).2 (by rw[<-y];decide)
     ·cases y
  ref:=λj b e s=>by
   by_cases q:j=i
   ·subst q;exact hr
   ·have:=K.ref j b e s
    unfold refsOf at this ⊢
    rwa [(hc j q).1,(hc j q).2]
  inj:=K.inj,le:=λj b e=>⟨jt (K.le j b e).1 hN,(K.le j b e).2⟩,lk:=hlk,ex:=λj q=>hex▸K.ex j q,wf:=wf,oW:=hWh,om:=d.2,on:=d1.2,op:=d2.2
  rO:=hs }
theorem stand{o:PO}{e c:Ad}(hl:o.bR=false)(q:∃ o,P c=some o/\o.bR=false):∃ o',upd P e o c=some o'/\o'.bR=false:=by
 by_cases x:c=e
 ·exact⟨o,by rw[x];exact aA ..,hl⟩
 ·exact q.imp λo' y=>⟨(aD x).trans y.1,y.2⟩
noncomputable def eS(h:eT)(e:Ad)(t:Tag):eT:=λc=>if c=e then some t else h c
theorem bX(h:eT)(e:Ad)(t:Tag):eS h e t e=some t:=ai rfl
theorem aM{h:eT}{e c:Ad}{t:Tag}(q:c≠e):eS h e t c=h c:=aa q
theorem aY{h:eT}{e c:Ad}{t t':Tag}(he:h e=none)(q:h c=some t'):eS h e t c=some t':=(aM λx=>by rw[x,he] at q;cases q).trans q
end
section
variable{w:Wc}{C:Cont}{i:Nat}{a kt kl:Ad}
noncomputable def Z.keep(z:Z w C [])(ha:z.A.ad i=some a)(ht:z.P kt=some (.tup [.int z.n.V 0,.ref kl]))(hl:z.P kl=some (.list (0,0) (z.A.dD (aX C i))))(ut:z.h kt=none)(ul:z.h kl=none)(hx:∀ j∈aX C i,∃ b,z.A.ad j=some b):Z w C [] where
 P:=upd z.P a (.inst 228 (lT z.A (C.lk i) i { z.kp i with kp:=some (kt,kl,z.n.V,aX C i) }))
 A:=z.A
 h:=eS (eS z.h kt (7,99)) kl (8,99)
 n:=z.n
 kp:=λj=>if j=i then { z.kp i with kp:=some (kt,kl,z.n.V,aX C i) } else z.kp j
 K:=
  have K:=z.K;have M:=K.mod i a ha nn;have nt:kl≠kt:=λq=>by rw[q,ht] at hl;cases hl
  have ul':eS z.h kt (7,99) kl=none:=(aM nt).trans ul;have g:∀{c t},z.h c=some t->eS (eS z.h kt (7,99)) kl (8,99) c=some t:=λq=>aY ul' (aY ut q);have na:∀{c t o},z.h c=some t->t≠(0,i)->z.P c=some o->upd z.P a (.inst 228 (lT z.A (C.lk i) i { z.kp i with kp:=some (kt,kl,z.n.V,aX C i) })) c=some o:=λq r p=>(aD λx=>r (by subst x;exact kr (q.symm.trans M.oa))).trans p;have nu:∀{c o},z.h c=none->z.P c=some o->upd z.P a (.inst 228 (lT z.A (C.lk i) i { z.kp i with kp:=some (kt,kl,z.n.V,aX C i) })) c=some o:=λq p=>(aD λx=>by rw[x,M.oa] at q;cases q).trans p
  K.chg ha (λc o t q r s p l=>⟨na q (λe=>r (by rw[e])) p,g q⟩) (na K.oW eY K.W) (g K.oW)
   (λc t q=>stand rfl (by
    by_cases x:c=kl
    ·exact⟨_,x▸hl,rfl⟩
    ·rw[aM x] at q
     by_cases y:c=kt
     ·exact⟨_,y▸ht,rfl⟩
     ·rw[aM y] at q;exact K.rO c t q))
   (λu u=>⟨rfl,rfl⟩) rfl K.wf (eu _) (eu _) rfl (λu u u=>rfl) (K.ref i a ha nn) K.lk
   {at_:=aA ..,fd:=na M.of eY M.fd,md:=na M.om eY M.md,cd:=na M.oc eY M.cd,xd:=na M.ox eY M.xd,ad:=na M.od eY M.ad
    ent:=λq hq=>⟨na (M.ent q hq).2 eY (M.ent q hq).1,g (M.ent q hq).2⟩
    kp:=λkt' kl' v ln e=>by cases e;exact⟨⟨nu ut ht,nu ul hl,(aM (gz nt)).trans (bX ..),bX ..⟩,eu _,λu=>rfl,hx⟩
    oa:=g M.oa,of:=g M.of,om:=g M.om,oc:=g M.oc,ox:=g M.ox,od:=g M.od }
theorem Le.keep{w':Wc}{C':Cont}{S':List Nat}{z0:Z w' C' S'}{z:Z w C []}(l:Le z0 z)(ha:z.A.ad i=some a)(ht:z.P kt=some (.tup [.int z.n.V 0,.ref kl]))(hl:z.P kl=some (.list (0,0) (z.A.dD (aX C i))))(ut:z.h kt=none)(ul:z.h kl=none)(hx:∀ j∈aX C i,∃ b,z.A.ad j=some b)
  (f1:Nw z0 kt) (f2:Nw z0 kl):Le z0 (z.keep ha ht hl ut ul hx):=⟨λc o q r k=>
 have x:=l.fr c o q r k
 have na:c≠a:=λy=>by
  subst y;have:=x.2.symm.trans (z.K.mod i c ha nn).oa;rcases k with k|⟨t,k⟩
  ·rw[k] at this;cases this
  ·rw[k] at this;cases this
   exact absurd (z.K.le 99 c ha).2 ()
 ⟨(aD na).trans x.1,((aM λy=>by subst y;exact f2 o q r k).trans (aM λy=>by subst y;exact f1 o q r k)).trans x.2⟩,l.ad⟩
end
variable{Ph:PH}{a:Ad}{vs:List Va}{t:Nat × Nat}
theorem Fq{R1:Nat × Nat->List Va->Prop}{R2:List Va->Prop}(h:Ph a=some (.list t vs))(hl:vs.length<big)(hq:R1 t vs):(match rd Ph a with
 | some (.list t vs)=>vs.length<big/\R1 t vs
 | some (.tup vs)=>vs.length<big/\R2 vs
 | _=>False):=by rw[dG h];exact⟨hl,hq⟩
theorem UK{R:Int->Prop}{i:Int}(h:Ph a=some (.list t vs))(hl:vs.length<big)(hs:zM vs=some i)(hq:R i):CT (Ph a) λq vs=>vs.length<big/\BZ (zM vs) R:=by rw[h];refine⟨hl,?_⟩;rw[hs];exact hq
theorem Kd:∀ l:List Nat,zM (l.map λq=>.int 1 0)=some (l.length:Int):=by
 intro rr;induction rr with
 | nil=>exact rfl
 | cons _ l ih=>show(zM (l.map λq=>.int 1 0)).map (1+·)=_;rw[ih,i9,i7,Int.natCast_add,Int.add_comm];rfl
theorem RO{R:Nat × Nat->List Va->Prop}(h:Ph a=some (.list t vs))(hl:vs.length<big)(hq:R t vs):(match Ph a with
 | some (.list t vs)=>vs.length<big/\R t vs
 | _=>False):=by rw[h];exact⟨hl,hq⟩
section
variable{m:Nat}{X:XP}{Q:VQ}{w:Wc}{C:Cont}{i j:Nat}{b:Ad}
theorem HM(z:Z w C []){c2:Ad}{o2:PO}{loc:Lv}{k:List Va->PH->Prop}:∀(l:List Nat) (P':PH) (acc:List Va),Pu z.P P'->P' c2=some o2->(∀ j∈l,(∃ b,z.A.ad j=some b)/\(C.c j).mx=[]/\(C.c j).ah=[])->(∀ P',Pu z.P P'->k (acc++l.map λq=>.int 1 0) P')->xZ (λv P' r=>bE (m+1) (.con (.bool true)) ((lP [none,none,none,none] loc).set 1 (some v)) P' oM λb P'=>aV b (bE (m+1) (.prim .len (.cons (.call 457 (.cons (.loc 1) .nil)) .nil)) ((lP [none,none,none,none] loc).set 1 (some v)) P' oM λv P'=>r (some v) P') (r none P')) (λP'=>iE P'->rd P' c2=some o2) (z.A.dD l) acc P' k:=by
 intro rr;induction rr with
 | nil=>exactλP' acc p q q h=>by have:=h P' p;rwa [List.map_nil,jk] at this
 | cons j l ih=>intro P' acc p hc hp h;obtain⟨⟨b,hb⟩,pl⟩:=hp j (.head _);show xZ _ _ (z.A.rf (some j)::z.A.dD l) _ _ _;rw[aQ hb];refine mD z hb pl p λP2 f p2 hf h'=>IV h' bl ⟨λq=>dG (p2 _ _ hc),ih P2 (acc++[.int 1 0]) (p.trans p2) (p2 _ _ hc) (λy hy=>hp y (.tail _ hy)) λP3 p3=>?_⟩;rw[i0];exact h P3 p3
theorem wz(z:Z w C [])(ha:z.A.ad i=some a){P0:PH}(p:Pu z.P P0)(hq:∀ P',Pu P0 P'->Q (.int ((C.c i).ah.length:Int) 0) P'):Calls (m+2) 462 [.ref a] P0 X Q:=by have M:=z.K.mod i a ha nn;have l1:=cK _ (z.K.wf.us i).2;refine aB 26 rfl rfl rfl (aG (p _ _ M.at_) rfl rfl rfl λq=>(Fq (p _ _ M.ad) (w4 l1) (HM (z.pu P0 p) _ P0 [] (Pu.refl _) (p _ _ M.ad) (uN z ha (.inr rfl)) λP2 p2 e he=>?_)));exact UK (aA ..) (k6 (fu (gi (ef ..)) l1) ()) (Kd _) (hq _ (p2.new _ he))
end
theorem fU(i:Nat){n:Nat}{f:Ad}{k:Nat}{ext:Lv}{cs:List Bool}{u:U}{vs:List Va}{Ph:PH}{X:XP}{Q:VQ}(hr:tab[i]?=some ⟨f,k,ext,cs,u⟩)(hl:vs.length=k)(nc:cs.any id=true)
  (h:wpS n cs u (vs.map some++ext) Ph (λe P'=>X e (bJ P')) (λq P'=>Q .none (bJ P')) (λv P'=>Q v (bJ P'))):Calls (n+1) f vs Ph X Q:=by refine xM (r:=⟨f,k,ext,cs,u⟩) (g4 hr) hl ?_;simp only[nc];exact h
noncomputable def DE:U:=(.seq (.bF (.and (.not (.call 450 (.cons (.loc 3) (.cons (.loc 6) .nil)))) (.or (.prim .lt (.cons (.loc 5) (.cons (.loc 4) .nil))) (.not (.call 450 (.cons (.loc 2) (.cons (.loc 6) .nil)))))) (.seq (.expr (.bm .append (.loc 3) (.cons (.loc 6) .nil))) .skip) .skip) .skip)
section
variable{m:Nat}{X:XP}{Q:VQ}{w:Wc}{C:Cont}{i j:Nat}{b:Ad}
noncomputable abbrev E1:List Bool:=[false,false,false,true,false,false,false,false,false,false,false,false]
noncomputable abbrev CM(v0 v1:Op Va)(b e:Ad)(cn:Int)(v5 v6:Op Va):Lv:=(v0::v1::some (.ref b)::some (.ref e)::some (.int cn 0)::v5::v6::nN 5)
theorem FD(z:Z w C []){e b1 c2:Ad}{o2:PO}{tb:Nat × Nat}{behind own:List Nat}{cn:Nat}{v0 v1:Op Va}{R:VQ}{N:NP}(he:z.h e=none)(hb:z.P b1=some (.list tb (z.A.dD behind)))(CF:b1≠e)(hc:z.P c2=some o2)(hce:c2≠e)
  (ho:∀ x∈own,∃ b,z.A.ad x=some b) (hbx:∀ x∈behind,∃ b,z.A.ad x=some b) (hl:behind.length<big):
  ∀(r:List Nat) (q:Nat) (found:List Nat) (P':PH) (v5 v6:Op Va),own.drop q=r->(∀ c,c≠e->P' c=z.P c)->P' e=some (.list (0,0) (z.A.dD found))->found.length+r.length<big->(∀ x∈found,∃ b,z.A.ad x=some b)->(∀ P' v5 v6,(∀ c,c≠e->P' c=z.P c)->P' e=some (.list (0,0) (z.A.dD (mq behind (cn-q) r found)))->(∀ x∈mq behind (cn-q) r found,∃ b,z.A.ad x=some b)->(mq behind (cn-q) r found).length<big->N (CM v0 v1 b1 e cn v5 v6) P')->cM (λv l P' k=>match v with
   | .ref q=>wpS (m+3) E1 DE ((l.set 5 (some (.int q 0))).set 6 (some (((z.A.dD own)[q]?).getD .none))) (kD E1 6 (kD E1 5 P')) X k R
   | _=>False) (λP'=>P' c2=some o2) ((List.range' q r.length).map .ref) (CM v0 v1 b1 e cn v5 v6) P' N:=by
 intro rr;induction rr with
 | nil=>exactλq found P' v5 v6 j al hf hn hx h=>h P' v5 v6 al hf hx hn
 | cons x r ih=>
  intro q found P' v5 v6 hd al hf hn hx h;have gx:own[q]?=some x:=by rw[<-List.head?_drop,hd];rfl
  obtain⟨bx,Iw⟩:=ho x (g4 gx);have gv:((z.A.dD own)[q]?).getD .none=.ref bx:=by unfold lE.dD;rw[gj,gx];exact aQ Iw
  show wpS (m+3) E1 DE (CM v0 v1 b1 e cn (some (.int q 0)) (some (((z.A.dD own)[q]?).getD .none))) P' X _ R;rw[gv];rw[i9] at hn;have hd':own.drop (q+1)=r:=by rw[<-List.tail_drop,hd];rfl
  have hq:cn-(q+1)=cn-q-1:=Nat.sub_add_eq ..;let y:=z.alt he P' al
  have key:∀(P2:PH) (found':List Nat),(∀ c,c≠e->P2 c=z.P c)->P2 e=some (.list (0,0) (z.A.dD found'))->found'.length<=found.length+1->(∀ x∈found',∃ b,z.A.ad x=some b)->mq behind (cn-q) (x::r) found=mq behind (cn-q-1) r found'->P2 c2=some o2/\cM (λv l P' k=>match v with
     | .ref q=>wpS (m+3) E1 DE ((l.set 5 (some (.int q 0))).set 6 (some (((z.A.dD own)[q]?).getD .none))) (kD E1 6 (kD E1 5 P')) X k R
     | _=>False) (λP'=>P' c2=some o2) ((List.range' (q+1) r.length).map .ref) (CM v0 v1 b1 e cn (some (.int q 0)) (some (.ref bx))) P2 N:=λP2 found' al2 hf2 hl2 hx2 ha=>⟨(al2 c2 hce).trans hc,ih (q+1) found' P2 _ _ hd' al2 hf2 (by lia) hx2 (by rw[hq,<-ha];exact h)⟩
  have app:found.contains x=false->(decide (0<cn-q)||!behind.contains x)=true->wpS (m+3) E1 (.seq (.expr (.bm .append (.loc 3) (.cons (.loc 6) .nil))) .skip) (CM v0 v1 b1 e cn (some (.int q 0)) (some (.ref bx))) P' X (λl P2=>P2 c2=some o2/\cM (λv l P' k=>match v with
     | .ref q=>wpS (m+3) E1 DE ((l.set 5 (some (.int q 0))).set 6 (some (((z.A.dD own)[q]?).getD .none))) (kD E1 6 (kD E1 5 P')) X k R
     | _=>False) (λP'=>P' c2=some o2) ((List.range' (q+1) r.length).map .ref) l P2 N) R:=λh1 h2=>by
   refine⟨sj hf,Cb hf (by rw[fT];lia) (key _ (found++[x]) (λc hc=>(aD hc).trans (al c hc)) ((aA ..).trans ?_) (by rw[gu];exact f7 _) (λy hy=>?_) ?_)⟩
   ·rw[<-lq,<-aQ Iw];rfl
   ·rcases cy hy with hy|hy
    ·exact hx y hy
    ·rw[cu hy];exact⟨bx,Iw⟩
   ·show mq behind (cn-q-1) r (if (!found.contains x&&(decide (0<cn-q)||!behind.contains x))=true then found++[x] else found)=_
    rw[h1,h2];rfl
  refine fV y hf hx Iw (by lia) ?_;cases h1:found.contains x with
  | true=>refine bt rfl (bf rfl (key _ found al hf (ki _) hx ?_));show mq behind (cn-q-1) r (if (!found.contains x&&(decide (0<cn-q)||!behind.contains x))=true then found++[x] else found)=_;rw[h1];rfl
  | false=>
   refine bf rfl (bt rfl ?_);by_cases hlt:(q:Int)<(cn:Int)
   ·refine bt (au hlt) (bt rfl (app h1 ?_))
    rw[au (by lia:0<cn-q)];rfl
   ·refine bf (av hlt) (fV y ((al b1 CF).trans hb) hbx Iw hl ?_)
    cases h2:behind.contains x with
    | true=>refine bt rfl (bf rfl (key _ found al hf (ki _) hx ?_));show mq behind (cn-q-1) r (if (!found.contains x&&(decide (0<cn-q)||!behind.contains x))=true then found++[x] else found)=_;rw[h1,h2,av (by lia:¬ 0<cn-q)];rfl
    | false=>refine bf rfl (bt rfl (app h1 ?_));rw[h2];exact Bool.or_true _
theorem E6(z:Z w C []){e c2:Ad}{o2:PO}{te:Nat × Nat}{found:List Nat}{v0 v1 v5 v6:Op Va}{b1:Ad}{cn:Int}{k:List Va->PH->Prop}(hf:z.P e=some (.list te (z.A.dD found)))(hx:∀ x∈found,∃ b,z.A.ad x=some b)(hl:found.length<big)(hc:z.P c2=some o2):
  ∀(l acc:List Nat),(∀ j∈l,∃ b,z.A.ad j=some b)->k (z.A.dD (acc++l.filter λx=>!found.contains x)) z.P->xZ (λv P' r=>bE (m+3) (.not (.call 450 (.cons (.loc 3) (.cons (.loc 1) .nil)))) ((lP [none,none,none,some 3] (CM v0 v1 b1 e cn v5 v6)).set 1 (some v)) P' oM λb P'=>aV b (bE (m+3) (.loc 1) ((lP [none,none,none,some 3] (CM v0 v1 b1 e cn v5 v6)).set 1 (some v)) P' oM λv P'=>r (some v) P') (r none P')) (λP'=>iE P'->rd P' c2=some o2) (z.A.dD l) (z.A.dD acc) z.P k:=by
 intro rr;induction rr with
 | nil=>exactλacc u h=>by rw[List.filter_nil,jk] at h;exact h
 | cons j l ih=>
  intro acc hp h;obtain⟨b,hb⟩:=hp j (.head _);show xZ _ _ (z.A.rf (some j)::z.A.dD l) _ _ _;rw[aQ hb];refine fV z hf hx hb hl ?_;cases q:found.contains j with
  | true=>
   refine bt rfl (bf rfl ⟨λu=>dG hc,ih acc (λy hy=>hp y (.tail _ hy)) ?_⟩)
   rwa [List.filter_cons_of_neg (by rw[q];decide)] at h
  | false=>
   refine bf rfl (bt rfl ⟨λu=>dG hc,?_⟩);show xZ _ _ _ (z.A.dD acc++[.ref b]) _ _;rw[show z.A.dD acc++[.ref b]=z.A.dD (acc++[j]) by rw[<-lq,<-aQ hb];rfl];refine ih (acc++[j]) (λy hy=>hp y (.tail _ hy)) ?_
   rwa [List.filter_cons_of_pos (by rw[q];decide),List.append_cons] at h
end
theorem G8(behind:List Nat):∀(r:List Nat) (c:Nat) (found:List Nat),(mq behind c r found).length<=found.length+r.length:=by
 intro rr;induction rr with
 | nil=>exactλq q=>f7 _
 | cons x r ih=>
  intro c found;refine fu (ih (c-1) _) ?_;rw[i9];split
  ·rw[gu,jg];lia
  ·lia
section
variable{m:Nat}{X:XP}{Q:VQ}{w:Wc}{C:Cont}{i j:Nat}{b:Ad}
theorem En(W:jV C)(i:Nat):(mQ C i).length<=5:=by have l1:=cK _ (W.us i).2;have l2:=cK _ (W.us i).1;unfold mQ;rw[gu,i9,gh,gh];lia
theorem I5(W:jV C)(i:Nat)(behind:List Nat):(eK C behind i).length<=behind.length+5:=by have h1:=G8 behind (mQ C i) (C.c i).ah.length [];have h2:=En W i;have h3:=jh (λx=>!(mq behind (C.c i).ah.length (mQ C i) []).contains x) behind;unfold eK;rw[gu];rw[j3] at h1;lia
theorem kJ(W:jV C):∀(k i:Nat),(jO C k i).length<=5*k:=by
 intro rr;induction rr with
 | zero=>exactλq=>j5 _
 | succ k ih=>
  intro i;refine fu (I5 W i _) ?_;cases par i with
  | none=>dsimp only;rw[j3];lia
  | some p=>have:=ih p;dsimp only;lia
theorem PY(z:Z w C [])(ha:z.A.ad i=some a):∀ x∈mQ C i,∃ b,z.A.ad x=some b:=λx hx=>by
 rcases cy hx with h|h
 ·exact(uN z ha (.inr rfl) x (d8 h)).1
 ·rcases ku h with h|h
  ·exact⟨a,by rw[h];exact ha⟩
  ·exact(uN z ha (.inl rfl) x (d8 h)).1
theorem FE(z:Z w C [])(ha:z.A.ad i=some a){v0:Op Va}{b1:Ad}{tb:Nat × Nat}{behind:List Nat}{N:NP}(hb:z.P b1=some (.list tb (z.A.dD behind)))(hbx:∀ x∈behind,∃ b,z.A.ad x=some b)(hl:behind.length<1000)
  (hq:∀(z':Z w C []) e,Le z z'->z'.A=z.A->z'.n=z.n->Nw z e->z'.h e=none->z'.P e=some (.list (0,0) (z.A.dD (eK C behind i)))->(∀ x∈eK C behind i,∃ b,z.A.ad x=some b)->Q (.ref e) z'.P):
  wpS (m+3) E1 (match nh with|.seq _ u=>u|_=>.skip) (v0::some (.ref a)::some (.ref b1)::nN 9) z.P X N (λv P'=>Q v (bJ P')):=by
 refine⟨bl,λe he=>wz z ha ((Pu.refl z.P).new _ he) λP2 p2=>⟨bl,λt ht=>nZ (aA ..) ⟨rfl,?_⟩⟩⟩;have p3:Pu (upd z.P e (.list (0,0) [])) (upd P2 t (.tup [.ref e,.int ((C.c i).ah.length:Int) 0])):=p2.new _ ht;let z5:=(z.pu _ (((Pu.refl z.P).new _ he).trans p3)).drop;have l5:Le z z5:=((Le.refl z).pu _ _).drop;have he5:z5.P e=some (.list (0,0) []):=cS (p3 _ _ (aA ..)) rfl;have hb5:z5.P b1=some (.list tb (z.A.dD behind)):=cS (p3 _ _ (aI hb he)) rfl;have hu:z5.h e=none:=z.un he;refine Cj z5 ha (Pu.refl _) λP6 f p6 hf h6=>?_;let y:=z5.pu P6 p6;have CF:b1≠e:=λq=>by rw[q,he] at hb;cases hb
 have hfe:f≠e:=λq=>by rw[q] at hf;cases hf.symm.trans he5
 have ol:=En z.K.wf i;refine RO h6 (k6 (fu (gi (fT _)) ol) ()) ?_;rw[List.range_eq_range',fT];refine FD y hu (p6 _ _ hb5) CF h6 hfe (PY z ha) hbx (gy hl ()) (mQ C i) 0 [] P6 none none rfl (λj j=>rfl) (p6 _ _ he5) (k6 (fu (gi (Nat.zero_add _)) ol) ()) (λx hx=>absurd hx gk) λP7 v5 v6 al h7 hx7 hl7=>?_;let y7:=y.alt hu P7 al
 refineλj=>Fq ((al b1 CF).trans (p6 _ _ hb5)) (k6 (gi (fT _)) (gy hl ())) (E6 y7 h7 hx7 hl7 ((al b1 CF).trans (p6 _ _ hb5)) behind [] hbx λg hg=>?_)
 rw[kq];have fl:=jh (λx=>!(mq behind ((C.c i).ah.length-0) (mQ C i) []).contains x) behind;refine Hh (aI h7 hg) (aA ..) ⟨by rw[fT];exact hl7,k6 (fu (gi (fT _)) fl) (gy hl ())⟩ λr hr=>?_;have l7:Le z y7:=(l5.pu P6 p6).alt (Nw.none z he) hu P7 al;have l8:=l7.new (.list (0,0) (z.A.dD (behind.filter λx=>!(mq behind ((C.c i).ah.length-0) (mQ C i) []).contains x))) hg;let y8:=y7.new g (.list (0,0) (z.A.dD (behind.filter λx=>!(mq behind ((C.c i).ah.length-0) (mQ C i) []).contains x))) hg;have ur:=y8.un hr;refine hq (y8.new r _ hr).drop r (l8.new _ hr).drop rfl rfl ((Nw.none y8 hr).of l8) ur (cS ((aA ..).trans (aj (λv=>some (PO.list (0,0) v)) (lq (A:=z.A) _ _))) rfl) λx hx=>?_;rcases cy hx with h|h
 ·exact hx7 x h
 ·exact hbx x (d9 h).1
end
section
noncomputable def rk(i:Nat):Nat:=([0,1,2,3,0,0,0,2,2,2,3,4,2,3,3,0,0,4,5,6,7,7]:List Nat).getD i 0
theorem iJ{i p:Nat}(h:par i=some p):rk p<rk i/\rk i<8:=by
 have key:∀ i,i<22->(match par i with|some p=>decide (rk p<rk i/\rk i<8)|none=>true)=true:=⋯;by_cases hi:i<22
 ·have:=key i hi
  rw[h] at this;exact of_decide_eq_true this
 ·unfold par at h
  rw[ji (Nat.le_of_not_lt hi)] at h;cases h
theorem LI(C:Cont):∀(k i:Nat),rk i<k->jO C (k+1) i=jO C k i:=by
 intro rr;induction rr with
 | zero=>exactλj h=>absurd h (j0 _)
 | succ k ih=>
  intro i h;show eK C _ i=eK C _ i;cases q:par i with
  | none=>rfl
  | some p=>dsimp only;rw[ih p (gr (iJ q).1 (jq h))]
theorem zd(C:Cont)(i:Nat):aX C i=eK C (match par i with|some p=>aX C p|none=>[]) i:=by
 unfold aX;show eK C _ i=eK C _ i;cases q:par i with
 | none=>rfl
 | some p=>dsimp only;rw[LI C 11 p (gr (iJ q).1 (fu (ja (iJ q).2) ()))]
section
variable{m:Nat}{X:XP}{w:Wc}{C:Cont}{i j:Nat}{b:Ad}
theorem RJ(k:Kp):handedIn k.kv=true:=zv _
theorem yh(A:lE)(o:Op Nat):handedIn (A.rf o)=true:=zv _
theorem JQ(A:lE)(o:Op Nat):lA (A.rf o)=true:=jP _
structure Oc(z z':Z w C [])(i:Nat)(e:Ad):Prop where
 le:Le z z'
 A:z'.A=z.A
 n:z'.n=z.n
 u:z'.h e=some (8,99)
 at_:z'.P e=some (.list (0,0) (z.A.dD (aX C i)))
 ex:∀ x∈aX C i,∃ b,z.A.ad x=some b
theorem qV:∀(k i:Nat) (z:Z w C []) {a:Ad} {X:XP} {Q:VQ},rk i<k->z.A.ad i=some a->(∀(z':Z w C []) e,Oc z z' i e->Q (.ref e) z'.P)->Calls (m+2*k+3) 474 [.ref w.W,.ref a] z.P X Q:=by
 intro rr;induction rr with
 | zero=>exact @λj j j j j h j j=>absurd h (j0 _)
 | succ k ih=>
  intro i z a X Q hk ha hq;have M:=z.K.mod i a ha nn
  have miss:wpS (m+2*k+3+1) [false,false,false] (match rW with|.seq (.bF _ u _) r=>.seq u r|_=>.skip) [some (.ref w.W),some (.ref a),none] z.P X (λj P'=>Q .none P') Q:=by
   refine aG z.K.W rfl rfl rfl (fU 27 rfl rfl rfl ?_);let Q1:VQ:=λv P'=>bD .tup [.int z.n.V 0,v] P' λv P'=>wk a 16 v P' λP'=>wpS (m+2*k+3+1) [false,false,false] (match rW with|.seq _ r=>r|_=>.skip) [some (.ref w.W),some (.ref a),none] P' X (λj P'=>Q .none P') Q
   have fin:∀(z1:Z w C []) (b1:Ad) (behind:List Nat),Le z z1->z1.A=z.A->z1.n=z.n->z1.P b1=some (.list (0,0) (z1.A.dD behind))->(∀ x∈behind,∃ b,z1.A.ad x=some b)->behind.length<1000->aX C i=eK C behind i->wpS (m+2*k+3) E1 (match nh with|.seq _ u=>u|_=>.skip) (some (.ref w.W)::some (.ref a)::some (.ref b1)::nN 9) z1.P (λe P'=>X e (bJ P')) (λj P'=>Q1 .none (bJ P')) (λv P'=>Q1 v (bJ P')):=λz1 b1 behind l1 A1 n1 hb hbx hl he=>by
    refine FE (Q:=Q1) z1 (by rw[A1];exact ha) hb hbx hl λz2 e l2 A2 n2 hn hu h2 hx2=>⟨bl,λkt hkt=>?_⟩
    let z3:=z2.new kt (.tup [.int z.n.V 0,.ref e]) hkt;have A3:z2.A=z.A:=A2.trans A1;have n3:z.n.V=z2.n.V:=by rw[n2,n1]
    have ha3:z2.A.ad i=some a:=by rw[A3];exact ha
    have ht:z3.P kt=some (.tup [.int z3.n.V 0,.ref e]):=(aA ..).trans (by rw[n3];rfl);have hL:z3.P e=some (.list (0,0) (z3.A.dD (aX C i))):=(aI h2 hkt).trans (by rw[he];show _=some (PO.list (0,0) (z2.A.dD (eK C behind i)));rw[A2]);have hx:∀ x∈aX C i,∃ b,z3.A.ad x=some b:=λx hx=>by rw[he] at hx;show ∃ b,z2.A.ad x=some b;rw[A2];exact hx2 x hx
    refine bQ (z3.at_ ha3 nn) rfl bl ?_;let z4:=z3.keep ha3 ht hL (z2.un hkt) hu hx;have l3:Le z z3:=(l1.trans l2).new _ hkt;have l4:Le z z4:=l3.keep ha3 ht hL (z2.un hkt) hu hx ((Nw.none z2 hkt).of (l1.trans l2)) (hn.of l1);have na:∀{c o},z3.h c=none->z3.P c=some o->z4.P c=some o:=λq p=>(aD λx=>by rw[x,(z3.K.mod i a ha3 nn).oa] at q;cases q).trans p;refine aG (v:=.ref kt) (aA ..) rfl rfl rfl (oH (v:=.ref e) (na (z2.un hkt) ht) () () rfl ?_);refine hq z4 e ⟨l4,A3,n2.trans n1,bX ..,na hu ?_,λx y=>A3▸hx x y⟩;rw[hL];show some (PO.list (0,0) (z2.A.dD _))=_;rw[A3]
   refine aG (z.at_ ha nn) rfl rfl (yh ..) ⟨JQ ..,?_⟩;have le:=zd C i;cases q:par i with
   | none=>rw[q] at le;exact⟨bl,λe he=>fin (z.new e _ he) e [] ((Le.refl z).new _ he) rfl rfl (aA ..) (λx h=>absurd h gk) () le⟩
   | some p=>obtain⟨b,hb⟩:=z.K.ref i a ha nn p (iO (mem_some q));rw[aQ hb];refine aG (v:=.ref b) (z.at_ ha nn) rfl (by show some (z.A.rf (par i))=_;rw[q,aQ hb]) rfl ?_;refine ih p z (gr (iJ q).1 (jq hk)) hb λz1 e1 L=>?_;rw[q] at le;refine fin z1 e1 (aX C p) L.le L.A L.n (by rw[L.A];exact L.at_) (λx hx=>by rw[L.A];exact L.ex x hx) (k6 (kJ z.K.wf 12 p) ()) le
  refine aB 28 rfl rfl rfl ?_;refine aG (z.at_ ha nn) rfl rfl (RJ _) ?_;cases q:(z.kp i).kp with
  | none=>unfold Kp.kv;rw[q];exact⟨rfl,miss⟩
  | some r=>
   obtain⟨kt,kl,v,ln⟩:=r;have kk:=M.kp kt kl v ln q;have ev:(z.kp i).kv=.ref kt:=by unfold Kp.kv;rw[q];rfl
   have eg:eH 16 (lT z.A (C.lk i) i (z.kp i))=some (.ref kt):=by show some (z.kp i).kv=_;rw[ev]
   rw[ev];refine⟨rfl,aG (z.at_ ha nn) rfl eg rfl (oH (v:=.int v 0) kk.1.1 () () rfl (aG (v:=.int z.n.V 0) z.K.W rfl rfl rfl ?_))⟩;by_cases hv:v=z.n.V
   ·refine bf (by rw[au hv];rfl) (aG (z.at_ ha nn) rfl eg rfl (oH (v:=.ref kl) kk.1.1 () () rfl ?_))
    have e:=kk.2.2.1 hv;subst e;exact hq z kl ⟨.refl z,rfl,rfl,kk.1.2.2.2,kk.1.2.1,kk.2.2.2⟩
   ·exact bt (by rw[av hv];rfl) miss
end
end
section
theorem IK{Ph:PH}{a:Ad}{t:Nat × Nat}{kvs:List (Str × Va)}(h:Ph a=some (.dict t kvs)):(match rd Ph a with
 | some (.dict ..)=>True
 | _=>False):=by rw[dG h];trivial
theorem CO{k:Str}{ea:Str->Ad}:∀{mt:List (Str × Ent)},aR k (mt.map λq=>(q.1,.ref (ea q.1)))=(mt.lookup k).map λj=>.ref (ea k):=by
 intro rr;induction rr with
 | nil=>exact rfl
 | cons q mt ih=>
  show(if q.1=k then _ else _)=_;by_cases e:q.1=k
  ·rw[ai e,f6,e,bg];show some (Value.ref (ea q.1))=some (.ref (ea k));rw[e]
  ·rw[aa e,f6,beq_eq_false_iff_ne.mpr (gz e)];exact ih
theorem zk{k:Str}{d:Ent}:∀{mt:List (Str × Ent)},mt.lookup k=some d->(k,d)∈mt:=by
 intro rr;induction rr with
 | nil=>exactλh=>by cases h
 | cons q mt ih=>
  intro h;rw[f6] at h;cases e:k==q.1 with
  | true=>rw[e] at h;obtain rfl:=kr h;rw[beq_iff_eq.mp e];exact .head _
  | false=>rw[e] at h;exact .tail _ (ih h)
noncomputable def jB(C:Cont)(x:Str):List Nat->Ent
 | []=>none
 | i::l=>match (C.c i).mt.lookup x with
  | some d=>d
  | none=>jB C x l
theorem qe{C:Cont}{x:Str}{i:Nat}{l:List Nat}:jB C x (i::l)=match (C.c i).mt.lookup x with
  | some d=>d
  | none=>jB C x l:=rfl
noncomputable def aW(C:Cont)(i:Nat)(x:Str):Ent:=jB C x (aX C i)
section
variable{m:Nat}{X:XP}{Q:VQ}{w:Wc}{C:Cont}{i j:Nat}{b:Ad}{x:Str}{P0:PH}
theorem Jg{i:Nat}{s:Str}(h:nat i=some s):jG (nat i)=.str s 0:=by rw[h];rfl
theorem wJ(z:Z w C [])(ha:z.A.ad i=some a){s:Str}(hs:nat i=some s)(p:Pu z.P P0)(hq:∀ P',Pu P0 P'->Q .none P'):Calls (m+1) 502 [.ref w.W,.ref a,.str x 0] P0 X Q:=by
 have M:=z.K.mod i a ha nn;have fe:eH 15 (lT z.A (C.lk i) i (z.kp i))=some (.str s 0):=by show some (jG (nat i))=_;rw[Jg hs]
 refine aB 29 rfl rfl rfl (aG (v:=.ref w.nd) (p _ _ z.K.W) rfl rfl rfl ⟨λq=>IK (p _ _ z.K.nd),aG (p _ _ M.at_) rfl fe rfl λe he q=>?_⟩);have p1:Pu z.P (upd P0 e (.dict (0,0) [])):=p.new _ he;refine Nu (p1 _ _ z.K.nd) ⟨mH (aA ..),uW (aA ..) ⟨rfl,aG (v:=.ref w.pd) (p1 _ _ z.K.W) rfl rfl rfl ⟨λq=>IK (p1 _ _ z.K.pd),aG (p1 _ _ M.at_) rfl fe rfl λf hf q=>?_⟩⟩⟩;exact Nu (p1.new _ hf _ _ z.K.pd) ⟨mH (aA ..),uW (aA ..) ⟨rfl,hq _ (((Pu.refl P0).new _ he).new _ hf)⟩⟩
theorem oY(z:Z w C [])(ha:z.A.ad i=some a)(p:Pu z.P P0)(hq:∀ P',Pu P0 P'->Q (JF (((C.c i).mt.lookup x).map λj=>(z.kp i).ea x)) P'):Calls (m+2) 509 [.ref w.W,.ref a,.str x 0] P0 X Q:=by
 have M:=z.K.mod i a ha nn;have md:=p _ _ M.md;refine aB 30 rfl rfl rfl (aG (p _ _ M.at_) rfl rfl rfl ⟨mH md,uW md ?_⟩);rw[CO];cases q:(C.c i).mt.lookup x with
 | none=>
  rw[q] at hq;refine⟨rfl,aG (p _ _ M.at_) rfl rfl (tY _) ⟨mP _,?_⟩⟩;cases hs:nat i with
  | none=>exact⟨rfl,hq P0 (Pu.refl _)⟩
  | some s=>exact wJ z ha hs p λP' p'=>⟨rfl,rfl,hq P' p'⟩
 | some d=>rw[q] at hq;have me:=M.ent _ (zk q);refine⟨rfl,rfl,aG (p _ _ me.1) rfl rfl rfl ?_⟩;cases d<;>exact hq P0 (Pu.refl _)
noncomputable def GX(z:Z w C [])(v:Va):Ent->Prop
 | none=>v=.none
 | some q=>∃ e r,v=.ref e/\z.P e=some (.inst 256 (tK (some q) r))/\z.h e=some (9,99)
theorem wI(z:Z w C []){l:Ad}{t:Nat × Nat}{ln:List Nat}(hl:z.P l=some (.list t (z.A.dD ln)))(hx:∀ j∈ln,∃ b,z.A.ad j=some b)(hb:ln.length<big)(hq:∀ P' v,Pu z.P P'->GX z v (jB C x ln)->Q v P'):Calls (m+3) 516 [.ref w.W,.ref l,.str x 0] z.P X Q:=by
 refine aB 31 rfl rfl rfl (cP hl (by rw[fT];exact hb) ?_)
 have key:∀(r:List Nat) (P0:PH) (v3 v4:Op Va),Pu z.P P0->(∀ j∈r,∃ b,z.A.ad j=some b)->(∀ P' v,Pu z.P P'->GX z v (jB C x r)->Q v P')->cM (λv l P' k=>wpS (m+2) (fF 6) (match oS with|.seq (.loop _ _ b) _=>b|_=>.skip) (l.set 3 (some v)) (kD (fF 6) 3 P') X k Q) (λP'=>P' l=some (.list t (z.A.dD ln))) (z.A.dD r) [some (.ref w.W),some (.ref l),some (.str x 0),v3,v4,none] P0 (λu P'=>Q .none P'):=λr=>by
  induction r with
  | nil=>exactλP0 v3 v4 p u h=>h P0 .none p rfl
  | cons j r ih=>
   intro P0 v3 v4 p hx h;obtain⟨b,hb⟩:=hx j (.head _);show cM _ _ (z.A.rf (some j)::z.A.dD r) _ _ _;rw[aQ hb];refine oY z hb p λP2 p2=>?_;have pp:=p.trans p2;cases q:(C.c j).mt.lookup x with
   | none=>refine⟨rfl,pp _ _ hl,ih P2 _ _ pp (λy hy=>hx y (.tail _ hy)) ?_⟩;rw[qe] at h;rw[q] at h;exact h
   | some d=>
    have me:=(z.K.mod j b hb nn).ent _ (zk q);refine⟨rfl,aG (pp _ _ me.1) rfl rfl rfl ?_⟩;cases d with
    | none=>exact h P2 .none pp (by rw[qe];rw[q];rfl)
    | some d=>exact h P2 _ pp (by rw[qe];rw[q];exact⟨_,_,rfl,me⟩)
 exact key ln z.P none none (Pu.refl _) hx hq
structure G7(z z':Z w C []):Prop where
 le:Le z z'
 A:z'.A=z.A
 n:z'.n=z.n
theorem qD(i:Nat):rk i<8:=by
 by_cases h:i<22
 ·exact(by decide +kernel:∀ i,i<22->rk i<8) i h
 ·unfold rk;rw[gw,ji (Nat.le_of_not_lt h)];decide
theorem yx(z:Z w C [])(ha:z.A.ad i=some a)(hq:∀(z':Z w C []) v,G7 z z'->GX z' v (aW C i x)->Q v z'.P):Calls (m+20) 523 [.ref w.W,.ref a,.str x 0] z.P X Q:=by
 refine aB 32 rfl rfl rfl (qV 8 i z (qD i) ha λz1 e L=>?_);refine wI z1 (by rw[L.A];exact L.at_) (λj hj=>by rw[L.A];exact L.ex j hj) (k6 (kJ z.K.wf 12 i) ()) λP' v p hv=>hq (z1.pu P' p) v ⟨L.le.pu P' p,L.A,L.n⟩ ?_;replace hv:GX z1 v (aW C i x):=hv;cases q:aW C i x with
 | none=>rw[q] at hv;exact hv
 | some d=>rw[q] at hv;exact hv.elim λe h=>h.elim λr h=>⟨e,r,h.1,p _ _ h.2.1,h.2.2⟩
end
end
section
def Bt(P P':PH)(a:Ad):Prop:=∀ c o,c≠a->P c=some o->P' c=some o
theorem Bt.refl(P:PH)(a:Ad):Bt P P a:=λq q q h=>h
theorem Bt.trans{P P' BR:PH}{a:Ad}(x:Bt P P' a)(y:Bt P' BR a):Bt P BR a:=λc o n h=>y c o n (x c o n h)
theorem Bt.put{P P':PH}{a:Ad}(x:Bt P P' a)(o:PO):Bt P (upd P' a o) a:=λc o' n h=>(aD n).trans (x c o' n h)
theorem Bt.new{P P':PH}{a e:Ad}(x:Bt P P' a)(o:PO)(he:P' e=none):Bt P (upd P' e o) a:=λc o' n h=>aI (x c o' n h) he
theorem Bt.fresh{P P':PH}{a e:Ad}{o:PO}(x:Bt P P' a)(ha:P a=some o)(ha':P' a≠none)(he:P' e=none):P e=none:=by
 cases q:P e with
 | none=>rfl
 | some o'=>
  by_cases n:e=a
  ·subst n;exact absurd he ha'
  ·rw[x e o' n q] at he;cases he
section
variable{m:Nat}{X:XP}{Q:VQ}{N:NP}{P0:PH}{num ow nm ic pa ou:Va}
noncomputable def UM(num ow:Va)(fd:Ad):List (Nat × Va):=[(0,num),(1,ow),(2,.ref fd),(3,.none),(4,.bool false),(5,.none)]
theorem nA{C:Ad}(h:P0 a=some (.inst C []))(hc:(([0,1,2,3,4,5]:List Nat).all λx=>gS C x)=true)(hq:∀ P' fd,Bt P0 P' a->P0 fd=none->fd≠a->P' a=some (.inst C (UM num ow fd))->P' fd=some (.dict (0,0) [])->Q .none P'):
  Calls (m+1) 37 [.ref a,num,ow] P0 X Q:=by
 have f:∀ x∈([0,1,2,3,4,5]:List Nat),gS C x=true:=dz hc;have l:∀{fs:List (Nat × Va)},fs.length.ble 899=true->fs.length<900:=λh=>j6 (bl h);refine aB 0 rfl rfl rfl (bQ h (f 0 ()) (l rfl) (bQ (aA ..) (f 1 ()) (l rfl) λfd hf=>?_));have x0:=((Bt.refl P0 a).put (.inst C (eN 0 num []))).put (.inst C (eN 1 ow (eN 0 num [])));have n:fd≠a:=λq=>by rw[q,aA] at hf;cases hf
 refine bQ (aI (aA ..) hf) (f 2 ()) (l rfl) (bQ (aA ..) (f 3 ()) (l rfl) (bQ (aA ..) (f 4 ()) (l rfl) (bQ (aA ..) (f 5 ()) (l rfl) ?_)));exact hq _ fd (((((x0.new _ hf).put _).put _).put _).put _) (x0.fresh h (by rw[aA];intro q;cases q) hf) n (aA ..) ((((((Bt.refl _ a).put _).put _).put _).put _) fd _ n (aA ..))
noncomputable def k0(fd md cd xd ad:Ad):Kp:=⟨fd,md,cd,xd,ad,(0,0),λq=>0,λq=>⟨"",0,0⟩,none⟩
noncomputable def m0(num ow nm ic pa ou:Va)(k:Kp):List (Nat × Va):=[(0,num),(1,ow),(2,.ref k.fd),(3,.none),(4,.bool false),(5,.none),(6,nm),(7,ic),(8,pa),(9,ou),(10,.ref k.md),(11,.ref k.cd),(12,.ref k.xd),(13,.ref k.ad),(14,.none),(15,.none),(16,.none)]
structure B7(P0 P':PH)(a:Ad)(k:Kp):Prop where
 pu:Pu P0 P'
 na:P0 a=none
 nf:P0 k.fd=none
 nm:P0 k.md=none
 nc:P0 k.cd=none
 nx:P0 k.xd=none
 nd:P0 k.ad=none
 fd:P' k.fd=some (.dict (0,0) [])
 md:P' k.md=some (.dict (0,0) [])
 cd:P' k.cd=some (.dict (0,0) [])
 xd:P' k.xd=some (.list (0,0) [])
 ad:P' k.ad=some (.list (0,0) [])
 d1:k.fd≠k.md
 d2:k.fd≠k.cd
 d3:k.md≠k.cd
 d4:k.xd≠k.ad
theorem lz{C:Ad}{x:Nat}{o:PO}{fs:List (Nat × Va)}{P':PH}{R1 R3:Ad->Ad->List (Nat × Va)->Prop}{R2:Ad->Ad->Prop}(h:P' a=some (.inst C fs))(hf:gS C x=true)(hl:fs.length.ble 899=true)
  (hq:∀ e,P' e=none->e≠a->Bt P' (upd (upd P' e o) a (.inst C (eN x (.ref e) fs))) a->upd (upd P' e o) a (.inst C (eN x (.ref e) fs)) a=some (.inst C (eN x (.ref e) fs))->upd (upd P' e o) a (.inst C (eN x (.ref e) fs)) e=some o->R1 e C fs):
  ∀ e,P' e=none->(match (upd P' e o) a with
   | some (.inst C fs)=>gS C x=true/\fs.length<900/\R1 e C fs
   | some (.raw C)=>(C=785/\cT x=true)/\R2 e C
   | some (.kF C fs)=>(C=785/\cT x=true/\fs.length<900)/\R3 e C fs
   | _=>False):=λe he=>
 have n:e≠a:=λq=>by rw[q,h] at he;cases he
 bQ (aI h he) hf (j6 (bl hl)) (hq e he n (((Bt.refl P' a).new o he).put _) (aA ..) ((aD n).trans (aA ..)))
theorem qt(ha:P0 a=none)(hq:∀ P' fd md cd xd ad,B7 P0 P' a (k0 fd md cd xd ad)->P' a=some (.inst 228 (m0 num ow nm ic pa ou (k0 fd md cd xd ad)))->N [some (.ref a),some num,some ow,some nm,some ic,some pa,some ou,none] P'):
  wpS (m+1) (fF 8) eB [some (.ref a),some num,some ow,some nm,some ic,some pa,some ou,none] (upd P0 a (.inst 228 [])) X N Q:=by
 have l:∀{fs:List (Nat × Va)},fs.length.ble 899=true->fs.length<900:=λh=>j6 (bl h)
 have old:∀{P':PH} {e:Ad},Bt (upd P0 a (.inst 228 [])) P' a->e≠a->P' e=none->P0 e=none:=λ{P' e} b n h=>by
  cases q:P0 e with
  | none=>rfl
  | some o=>rw[b e o n ((aD n).trans q)] at h;cases h
 refine nA (aA ..) rfl λP1 fd b1 n1 e1 h1 f1=>?_;refine bQ h1 rfl (l rfl) (bQ (aA ..) rfl (l rfl) (bQ (aA ..) rfl (l rfl) (bQ (aA ..) rfl (l rfl) (lz (aA ..) rfl rfl λmd n2 e2 b2 h2 f2=>?_))));have d1:fd≠md:=λq=>by subst q;cases n2.symm.trans ((((((Bt.refl P1 a).put _).put _).put _).put _) fd _ e1 f1)
 replace n2:=old ((((b1.put _).put _).put _).put _) e2 n2;replace b2:=((((Bt.refl P1 a).put _).put _).put _).put _ |>.trans b2
 generalize upd (upd _ md _) a _=P2 at b2 h2 f2 ⊢;replace f1:=b2 fd _ e1 f1;replace b1:=b1.trans b2;refine lz h2 rfl rfl λcd n3 e3 b3 h3 f3=>?_;have d2:fd≠cd:=λq=>by rw[<-q,f1] at n3;cases n3
 have d3:md≠cd:=λq=>by rw[<-q,f2] at n3;cases n3
 replace n3:=old b1 e3 n3;generalize upd (upd _ cd _) a _=P3 at b3 h3 f3 ⊢;refine⟨bl,lz h3 rfl rfl λxd n4 e4 b4 h4 f4=>?_⟩;replace n4:=old (b1.trans b3) e4 n4;generalize upd (upd _ xd _) a _=P4 at b4 h4 f4 ⊢;refine⟨bl,lz h4 rfl rfl λad n5 e5 b5 h5 f5=>?_⟩;have d4:xd≠ad:=λq=>by rw[<-q,f4] at n5;cases n5
 replace n5:=old ((b1.trans b3).trans b4) e5 n5;generalize upd (upd _ ad _) a _=P5 at b5 h5 f5 ⊢;refine bQ h5 rfl (l rfl) (bQ (aA ..) rfl (l rfl) (bQ (aA ..) rfl (l rfl) ?_));have b6:∀ o1 o2 o3,Bt P5 (upd (upd (upd P5 a o1) a o2) a o3) a:=λo1 o2 o3=>(((Bt.refl P5 a).put o1).put o2).put o3
 have key:∀{P6:PH} {h:List (Nat × Va)},Bt P5 P6 a->P6 a=some (.inst 228 h)->B7 P0 P6 a (k0 fd md cd xd ad):=λ{P6 h} b6 _=>
  have b56:=b5.trans b6;have b46:=b4.trans b56;have b36:=b3.trans b46
  ⟨λc o q=>(b1.trans b36) c o (λn=>by rw[n,ha] at q;cases q) ((aD λn=>by rw[n,ha] at q;cases q).trans q),ha,(aD e1).symm.trans n1,n2,n3,n4,n5,b36 _ _ e1 f1,b36 _ _ e2 f2,b46 _ _ e3 f3,b56 _ _ e4 f4,b6 _ _ e5 f5,d1,d2,d3,d4⟩
 exact hq _ fd md cd xd ad (key (b6 _ _ _) (aA ..)) (aA ..)
end
end
section
noncomputable def lE.set(A:lE)(i:Nat)(a:Ad)(num:Int):lE:=⟨λj=>if j=i then some a else A.ad j,λj=>if j=i then num else A.num j⟩
section
variable{w:Wc}{C C':Cont}{S:List Nat}{A:lE}{h h':eT}{n n':Nm}{kp:Nat->Kp}{i:Nat}{k:Kp}{num:Int}
theorem set_same(A:lE)(i:Nat)(a:Ad)(num:Int):(A.set i a num).ad i=some a:=ai rfl
theorem bT(hi:A.ad i=none)(j:Nat)(b:Ad)(e:A.ad j=some b):(A.set i a num).ad j=some b/\(A.set i a num).num j=A.num j:=by
 have n:j≠i:=λq=>by rw[q,hi] at e;cases e
 exact⟨(aa n).trans e,aa n⟩
theorem zc(hC:C'.c=C.c):∀ k i,jO C' k i=jO C k i:=by
 intro rr;induction rr with
 | zero=>exactλq=>rfl
 | succ k ih=>
  intro i;show eK C' _ i=eK C _ i;unfold eK mQ;rw[hC];cases par i with
  | none=>rfl
  | some p=>dsimp only;rw[ih p]
theorem Core.open(K:Core w C S P A h n kp)(hi:A.ad i=none)(hlt:i<22)(hP:∀ c o t,h c=some t->c≠w.gO->P c=some o->P' c=some o)(hm:P' w.gO=some (.dict (0,0) n'.md))(hml:n'.md.length+miss (A.set i a num)<=12)(hmk:∀ q∈n'.md,q.1.length<big)
  (hmg:∀ j x,qO j=some x->aR x n'.md=((A.set i a num).ad j).map .ref) (hn:n'.N=n.N/\n'.V=n.V/\n'.cv=n.cv) (hc:∀ j,j≠i->C'.c j=C.c j) (hL:∀ j b,A.ad j=some b->aX C' j=aX C j) (hlk:C'.lk=C.lk) (hex:∀ j,12<=j->C'.ex j=if j=i then true else C.ex j) (wf:jV C') (hnum:num<=n.N) (hinj:∀ j b,A.ad j=some b->A.num j≠num):
  Core w C' (i::S) P' (A.set i a num) h n' kp:=
 have dW:=K.oW;have nm:∀{c t},h c=some t->t≠(6,50)->c≠w.gO:=λq r x=>r (kr (by subst x;exact q.symm.trans K.om));have old:∀{j b},(A.set i a num).ad j=some b->j≠i->A.ad j=some b:=λe q=>(aa q).symm.trans e
 {W:=by
   have:=hP _ _ _ K.oW (nm K.oW ()) K.W;unfold s8 at this ⊢
   rwa [hn.1,hn.2.1,hn.2.2]
  gO:=hm,nd:=hP _ _ _ K.on (nm K.on ()) K.nd,pd:=hP _ _ _ K.op (nm K.op ()) K.pd,vC:=hml,w5:=hmk,vB:=hmg
  mod:=λj b e s=>by
   have q:j≠i:=λq=>s (by rw[q];exact .head _);have e':=old e q;have s':j∉S:=λx=>s (.tail _ x);rw[hn.2.1];refine(K.mod j b e' s').move e' (K.ref j b e' s') (λc o t x y p l=>⟨hP c o t x (nm x λz=>?_) p,x⟩) (bT hi) (by rw[hlk]) (hc j q) (eu _) λu=>hL j b e';subst z;rcases y with y|y
   ·exact absurd (K.le j b e').2 (by rw[<-y];decide)
   ·cases y
  ref:=λj b e s=>by
   have q:j≠i:=λq=>s (by rw[q];exact .head _);intro y hy;have hy':y∈refsOf C j:=by unfold refsOf at hy ⊢;rwa [hc j q,hlk] at hy
   exact(K.ref j b (old e q) (λx=>s (.tail _ x)) y hy').imp λb x=>(bT hi y b x).1
  inj:=λj j' b b' e e' q=>by
   by_cases x:j=i
   ·by_cases y:j'=i
    ·rw[x,y]
    ·refine absurd ?_ (hinj j' b' (old e' y))
     rw[<-(bT (a:=a) (num:=num) hi j' b' (old e' y)).2,<-q,x];exact ai rfl
   ·by_cases y:j'=i
    ·refine absurd ?_ (hinj j b (old e x))
     rw[<-(bT (a:=a) (num:=num) hi j b (old e x)).2,q,y];exact ai rfl
    ·refine K.inj j j' b b' (old e x) (old e' y) ?_
     rwa [(bT (a:=a) (num:=num) hi j b (old e x)).2,(bT (a:=a) (num:=num) hi j' b' (old e' y)).2] at q
  le:=λj b e=>by
   rw[hn.1];by_cases x:j=i
   ·subst x;rw[show(A.set j a num).num j=num from ai rfl];exact⟨hnum,hlt⟩
   ·rw[(bT (a:=a) (num:=num) hi j b (old e x)).2];exact K.le j b (old e x)
  lk:=λj q=>(K.lk j (by rwa [hlk] at q)).elim λb x=>⟨b,(bT hi j b x).1⟩
  ex:=λj q=>by
   rw[hex j q];by_cases x:j=i
   ·rw[ai x,x,set_same];rfl
   ·rw[aa x,<-K.ex j q];exact aj _ (aa x)
  wf:=wf,oW:=K.oW,om:=K.om,on:=K.on,op:=K.op
  rO:=λc t q=>by
   by_cases x:c=w.gO
   ·exact⟨_,by rw[x];exact hm,rfl⟩
   ·exact(K.rO c t q).imp λo y=>⟨hP c o t q x y.1,y.2⟩ }
theorem Core.close(K:Core w C (i::S) P A h n kp)(ha:A.ad i=some a)(hh:∀ c t,h c=some t->h' c=some t)(hs:∀ c t,h' c=some t->∃ o,P c=some o/\o.bR=false)(hr:∀ j∈refsOf C i,∃ b,A.ad j=some b)(M:EH P A C h' n.V i a k):Core w C S P A h' n (λj=>if j=i then k else kp j):=
 have sm:∀{j},j∉S->j≠i->j∉i::S:=λs q x=>(ku x).elim q s
 {W:=K.W,gO:=K.gO,nd:=K.nd,pd:=K.pd,vC:=K.vC,w5:=K.w5,vB:=K.vB
  mod:=λj b e s=>by
   by_cases q:j=i
   ·subst q
    cases ha.symm.trans e;rw[ai rfl];exact M
   ·rw[aa q]
    exact(K.mod j b e (sm s q)).move e (K.ref j b e (sm s q)) (λc o t x y p y=>⟨p,hh c t x⟩) (λy y x=>⟨x,rfl⟩) rfl rfl (eu _) λy=>rfl
  ref:=λj b e s=>by
   by_cases q:j=i
   ·subst q;exact hr
   ·exact K.ref j b e (sm s q)
  inj:=K.inj,le:=K.le,lk:=K.lk,ex:=K.ex,wf:=K.wf,oW:=hh _ _ K.oW,om:=hh _ _ K.om,on:=hh _ _ K.on,op:=hh _ _ K.op,rO:=hs }
noncomputable def Ga(h:eT)(i:Nat)(a:Ad)(k:Kp):eT:=eS (eS (eS (eS (eS (eS h a (0,i)) k.fd (5,i)) k.md (1,i)) k.cd (2,i)) k.xd (3,i)) k.ad (4,i)
structure Cells(P:PH)(h:eT)(a:Ad)(k:Kp)(fs:List (Nat × Va))(ml cl:List (Str × Va))(xl al:List Va):Prop where
 at_:P a=some (.inst 228 fs)
 fd:P k.fd=some (.dict (0,0) [])
 md:P k.md=some (.dict k.tg ml)
 cd:P k.cd=some (.dict (0,0) cl)
 xd:P k.xd=some (.list (0,0) xl)
 ad:P k.ad=some (.list (0,0) al)
 ua:h a=none
 uf:h k.fd=none
 um:h k.md=none
 uc:h k.cd=none
 ux:h k.xd=none
 ud:h k.ad=none
 d1:k.fd≠k.md
 d2:k.fd≠k.cd
 d3:k.md≠k.cd
 d4:k.xd≠k.ad
structure Vx(h h':eT)(i:Nat)(a:Ad)(k:Kp)(P:PH):Prop where
 oa:h' a=some (0,i)
 of:h' k.fd=some (5,i)
 om:h' k.md=some (1,i)
 oc:h' k.cd=some (2,i)
 ox:h' k.xd=some (3,i)
 od:h' k.ad=some (4,i)
 old:∀ c t,h c=some t->h' c=some t
 st:∀ c t,h' c=some t->h c=some t\/∃ o,P c=some o/\o.bR=false
theorem Cells.Ss{fs:List (Nat × Va)}{ml cl:List (Str × Va)}{xl al:List Va}(c:Cells P h a k fs ml cl xl al)(i:Nat):Vx h (Ga h i a k) i a k P:=by
 have p0:=c.at_;have p2:=c.md;have p3:=c.cd;have p4:=c.xd;have p5:=c.ad;have ne:∀{x y:Ad} {o o':PO},P x=some o->P y=some o'->o≠o'->x≠y:=λp q r z=>r (by subst z;rw[p] at q;exact kr q);have n1:=ne c.fd p0 yd;have v1:(eS h a (0,i)) k.fd=none:=(aM n1).trans c.uf;have v2:(eS (eS h a (0,i)) k.fd (5,i)) k.md=none:=(aM (gz c.d1)).trans ((aM (ne p2 p0 yd)).trans c.um);have v3:(eS (eS (eS h a (0,i)) k.fd (5,i)) k.md (1,i)) k.cd=none:=(aM (gz c.d3)).trans ((aM (gz c.d2)).trans ((aM (ne p3 p0 yd)).trans c.uc));have v4:(eS (eS (eS (eS h a (0,i)) k.fd (5,i)) k.md (1,i)) k.cd (2,i)) k.xd=none:=(aM (ne p4 p3 yd)).trans ((aM (ne p4 p2 yd)).trans ((aM (ne p4 c.fd yd)).trans ((aM (ne p4 p0 yd)).trans c.ux)));have v5:(eS (eS (eS (eS (eS h a (0,i)) k.fd (5,i)) k.md (1,i)) k.cd (2,i)) k.xd (3,i)) k.ad=none:=(aM (gz c.d4)).trans ((aM (ne p5 p3 yd)).trans ((aM (ne p5 p2 yd)).trans ((aM (ne p5 c.fd yd)).trans ((aM (ne p5 p0 yd)).trans c.ud))));refine⟨aY v5 (aY v4 (aY v3 (aY v2 (aY v1 (bX ..))))),aY v5 (aY v4 (aY v3 (aY v2 (bX ..)))),aY v5 (aY v4 (aY v3 (bX ..))),aY v5 (aY v4 (bX ..)),aY v5 (bX ..),bX ..,λx t q=>aY v5 (aY v4 (aY v3 (aY v2 (aY v1 (aY c.ua q))))),λx t q=>?_⟩
 ·by_cases q5:x=k.ad
  ·exact .inr ⟨_,by rw[q5];exact p5,rfl⟩
  by_cases q4:x=k.xd
  ·exact .inr ⟨_,by rw[q4];exact p4,rfl⟩
  by_cases q3:x=k.cd
  ·exact .inr ⟨_,by rw[q3];exact p3,rfl⟩
  by_cases q2:x=k.md
  ·exact .inr ⟨_,by rw[q2];exact p2,rfl⟩
  by_cases q1:x=k.fd
  ·exact .inr ⟨_,by rw[q1];exact c.fd,rfl⟩
  by_cases q0:x=a
  ·exact .inr ⟨_,by rw[q0];exact p0,rfl⟩
  exact .inl ((((((((aM q5).trans (aM q4)).trans (aM q3)).trans (aM q2)).trans (aM q1)).trans (aM q0)).symm).trans q)
end
end
section
section
variable{w w':Wc}{C C':Cont}{S S':List Nat}{i:Nat}{k:Kp}{fs fs':List (Nat × Va)}{ml cl:List (Str × Va)}{xl al:List Va}
theorem Cells.le{z:Z w C S}{z':Z w' C' S'}(c:Cells z.P z.h a k fs ml cl xl al)(l:Le z z'):Cells z'.P z'.h a k fs ml cl xl al:=
 have p0:=l.fr _ _ c.at_ rfl (.inl c.ua);have p1:=l.fr _ _ c.fd rfl (.inl c.uf);have p2:=l.fr _ _ c.md rfl (.inl c.um);have p3:=l.fr _ _ c.cd rfl (.inl c.uc);have p4:=l.fr _ _ c.xd rfl (.inl c.ux);have p5:=l.fr _ _ c.ad rfl (.inl c.ud)
 ⟨p0.1,p1.1,p2.1,p3.1,p4.1,p5.1,p0.2.trans c.ua,p1.2.trans c.uf,p2.2.trans c.um,p3.2.trans c.uc,p4.2.trans c.ux,p5.2.trans c.ud,c.d1,c.d2,c.d3,c.d4⟩
theorem oq{P:PH}{x y:Ad}{o o':PO}(p:P x=some o)(q:P y=some o')(r:o≠o'):x≠y:=λz=>r (by subst z;rw[p] at q;exact kr q)
theorem Cells.put{P:PH}{h:eT}(c:Cells P h a k fs ml cl xl al)(fs':List (Nat × Va)):Cells (upd P a (.inst 228 fs')) h a k fs' ml cl xl al:=⟨aA ..,(aD (oq c.fd c.at_ yd)).trans c.fd,(aD (oq c.md c.at_ yd)).trans c.md,(aD (oq c.cd c.at_ yd)).trans c.cd,(aD (oq c.xd c.at_ yd)).trans c.xd,(aD (oq c.ad c.at_ yd)).trans c.ad,c.ua,c.uf,c.um,c.uc,c.ux,c.ud,c.d1,c.d2,c.d3,c.d4⟩
theorem Cells.R9{P:PH}{h:eT}(c:Cells P h a k fs ml cl xl al){x:Ad}{vs:List Va}(hx:P x=some (.list (0,0) vs))(u:h x=none)(n:x≠k.ad):Cells P h a { k with xd:=x } fs ml cl vs al:={ c with xd:=hx,ux:=u,d4:=n }
theorem Cells.cast{P:PH}{h:eT}{ml' cl':List (Str × Va)}{xl' al':List Va}(c:Cells P h a k fs ml cl xl al)(e1:fs=fs')(e2:ml=ml')(e3:cl=cl')(e4:xl=xl')(e5:al=al'):Cells P h a k fs' ml' cl' xl' al':=by subst e1 e2 e3 e4 e5;exact c
theorem B7.cells{z:Z w C S}{P':PH}(M:B7 z.P P' a k)(ht:k.tg=(0,0))(h:P' a=some (.inst 228 fs)):Cells P' z.h a k fs [] [] [] []:=⟨h,M.fd,by rw[ht];exact M.md,M.cd,M.xd,M.ad,z.un M.na,z.un M.nf,z.un M.nm,z.un M.nc,z.un M.nx,z.un M.nd,M.d1,M.d2,M.d3,M.d4⟩
theorem Er{h:eT}{i:Nat}{c:Ad}(n0:c≠a)(n1:c≠k.fd)(n2:c≠k.md)(n3:c≠k.cd)(n4:c≠k.xd)(n5:c≠k.ad):Ga h i a k c=h c:=(((((aM n5).trans (aM n4)).trans (aM n3)).trans (aM n2)).trans (aM n1)).trans (aM n0)
noncomputable def Z.close(z:Z w C (i::S))(ha:z.A.ad i=some a)(c:Cells z.P z.h a k (lT z.A (C.lk i) i k) ((C.c i).mt.map λq=>(q.1,.ref (k.ea q.1))) ((C.c i).ct.map λq=>(q.1,.int q.2 0)) (z.A.dD (C.c i).mx) (z.A.dD (C.c i).ah))
  (he:∀ q∈(C.c i).mt,z.P (k.ea q.1)=some (.inst 256 (tK q.2 (k.er q.1)))/\z.h (k.ea q.1)=some (9,99)) (hk:k.kp=none) (hr:∀ j∈refsOf C i,∃ b,z.A.ad j=some b):Z w C S where
 P:=z.P
 A:=z.A
 h:=Ga z.h i a k
 n:=z.n
 kp:=λj=>if j=i then k else z.kp j
 K:=
  have R:=c.Ss i
  z.K.close ha R.old (λc t q=>(R.st c t q).elim (z.K.rO c t) id) hr
   {at_:=c.at_,fd:=c.fd,md:=c.md,cd:=c.cd,xd:=c.xd,ad:=c.ad,ent:=λq hq=>⟨(he q hq).1,R.old _ _ (he q hq).2⟩,kp:=λkt kl v ln e=>by rw[hk] at e;cases e
    oa:=R.oa,of:=R.of,om:=R.om,oc:=R.oc,ox:=R.ox,od:=R.od }
structure Ds(z:Z w C S)(a:Ad)(k:Kp):Prop where
 n0:Nw z a
 n1:Nw z k.fd
 n2:Nw z k.md
 n3:Nw z k.cd
 n4:Nw z k.xd
 n5:Nw z k.ad
theorem Ds.of{z:Z w C S}{z':Z w' C' S'}(l:Le z z')(n:Ds z' a k):Ds z a k:=⟨n.n0.of l,n.n1.of l,n.n2.of l,n.n3.of l,n.n4.of l,n.n5.of l⟩
theorem B7.nw{z:Z w C S}{P':PH}(M:B7 z.P P' a k):Ds z a k:=⟨.none z M.na,.none z M.nf,.none z M.nm,.none z M.nc,.none z M.nx,.none z M.nd⟩
theorem Le.Ss{z0:Z w' C' S'}{z:Z w C (i::S)}(l:Le z0 z)(n:Ds z0 a k){z':Z w C S}(eP:z'.P=z.P)(eA:z'.A=z.A)(eh:z'.h=Ga z.h i a k):Le z0 z':=⟨λc o q r t=>⟨by rw[eP];exact(l.fr c o q r t).1,by have f:∀ x,Nw z0 x->c≠x:=λx nx e=>nx o (by rw[<-e];exact q) r (by rw[<-e];exact t);rw[eh,Er (f _ n.n0) (f _ n.n1) (f _ n.n2) (f _ n.n3) (f _ n.n4) (f _ n.n5)];exact(l.fr c o q r t).2⟩,by rw[eA];exact l.ad⟩
end
theorem countP_le{p q:Nat->Bool}(h:∀ x,q x=true->p x=true):∀ l:List Nat,l.countP q<=l.countP p:=by
 intro rr;induction rr with
 | nil=>exact f7 _
 | cons x l ih=>
  rw[List.countP_cons,List.countP_cons];have:=ih;by_cases e:q x=true
  ·rw[ai e,ai (h x e)];exact j8 this
  ·rw[aa e];exact fu this (Nat.le_add_right ..)
theorem E0{p q:Nat->Bool}(h:∀ x,q x=true->p x=true){i:Nat}(hp:p i=true)(hq:q i=false):∀ l:List Nat,i∈l->l.countP q+1<=l.countP p:=by
 intro rr;induction rr with
 | nil=>exactλm=>absurd m gk
 | cons x l ih=>
  intro m;rw[List.countP_cons,List.countP_cons];by_cases e:x=i
  ·rw[e,hp,hq,ai rfl,aa ()];exact j8 (countP_le h l)
  ·have:=ih ((ku m).resolve_left (gz e))
   by_cases f:q x=true
   ·rw[ai f,ai (h x f)];lia
   ·rw[aa f];lia
theorem zj{A A':lE}(h:∀ i a,A.ad i=some a->A'.ad i=some a/\A'.num i=A.num i):miss A'<=miss A:=countP_le (λx e=>by
 cases q:A.ad x with
 | none=>rfl
 | some b=>rw[(h x b q).1] at e;cases e) _
theorem vz{A:lE}{i:Nat}{a:Ad}{num:Int}(hi:A.ad i=none)(hl:i<12):miss (A.set i a num)+1<=miss A:=
 E0 (i:=i) (λx e=>by
  cases q:A.ad x with
  | none=>rfl
  | some b=>rw[(bT hi x b q).1] at e;cases e) (by rw[hi];rfl) (by rw[set_same];rfl) _ (List.mem_range.mpr hl)
end
theorem oJ:bO 1055 0=some 857/\bL 0=none:=⋯
theorem Ec:bO 1055 6=some 836/\bL 6=some 0:=⋯
theorem LM:bO 1055 11=some 869/\bL 11=none:=⋯
theorem RX:bO 1055 12=some 862/\bL 12=none:=⋯
noncomputable def zp(i:Nat):Str:=(nat i).getD ""
theorem rE{i:Nat}{x:Str}(h:qO i=some x):i<12/\x=zp i/\nat i=some x:=by
 unfold qO at h;by_cases q:i<12
 ·rw[ai q] at h
  exact⟨q,by unfold zp;rw[h];rfl,h⟩
 ·rw[aa q] at h;cases h
theorem LY:∀ i,i<12->∀ j,j<12->zp i=zp j->i=j:=⋯
theorem Eh:∀ i,i<12->(zp i).length<big:=⋯
theorem Js:∀ i,i<12->gB (zp i) [.str "Kernel" 0,.str "Comparable" 0,.str "Enumerable" 0]=some (!gM i):=⋯
noncomputable def FY(i:Nat):Va:=match par i with
 | none=>.none
 | some p=>.str (zp p) 0
theorem L4:(List.range 12).map (λi=>aR (zp i) iF)=(List.range 12).map λi=>some (FY i):=by kernel_rfl
theorem Sn:∀ i,i<12->∀ p∈(par i).toList,qO p=some (zp p):=⋯
theorem R8:∀ i,i<12->qO i=some (zp i)/\gW i=none/\wu i≠[i]:=⋯
noncomputable def LP:List (Str × Va):=[("Object",.ref 793),("Numeric",.ref 794),("String",.ref 795),("Symbol",.ref 796),("Array",.ref 797),("Hash",.ref 798),("Range",.ref 799)]
noncomputable def I9(i:Nat):Op Va:=if i=1 then some (.ref 793) else if i=7 then some (.ref 795) else if i=8 then some (.ref 797) else none
theorem LZ:(List.range 12).map (λi=>aR (zp i) LP)=(List.range 12).map I9:=by kernel_rfl
theorem Pr(i:Nat):(I9 i=none/\wu i=[])\/∃ s j,I9 i=some (.ref s)/\wu i=[j]/\qO j=some (zp j)/\nY s=some (.tup [.str (zp j) 0]):=by
 unfold I9 wu;by_cases h1:i=1
 ·exact .inr ⟨793,4,by rw[ai h1],by rw[ai h1],rfl,rfl⟩
 ·rw[aa h1,aa h1]
  by_cases h7:i=7
  ·exact .inr ⟨795,5,by rw[ai h7],by rw[ai h7],rfl,rfl⟩
  ·rw[aa h7,aa h7]
   by_cases h8:i=8
   ·exact .inr ⟨797,6,by rw[ai h8],by rw[ai h8],rfl,rfl⟩
   ·exact .inl ⟨by rw[aa h8],by rw[aa h8]⟩
theorem Lu(x y:Str)(v:Va):∀ l:List (Str × Va),aR y (cU x v l)=if x=y then some v else aR y l:=by
 intro rr;induction rr with
 | nil=>exact rfl
 | cons e r ih=>
  rw[tP];by_cases q:e.1=x
  ·rw[ai q]
   show(if e.1=y then some v else aR y r)=if x=y then some v else(if e.1=y then some e.2 else aR y r)
   rw[q];by_cases z:x=y
   ·rw[ai z,ai z]
   ·rw[aa z,aa z,aa z]
  ·rw[aa q]
   show(if e.1=y then some e.2 else aR y (cU x v r))=if x=y then some v else(if e.1=y then some e.2 else aR y r)
   rw[ih];by_cases z:e.1=y
   ·rw[ai z,ai z,aa λh=>q (z.trans h.symm)]
   ·rw[aa z,aa z]
theorem Fi{x:Str}{v:Va}{q:Str × Va}:∀{l:List (Str × Va)},q∈cU x v l->q.1=x\/∃ q'∈l,q'.1=q.1:=by
 intro rr;induction rr with
 | nil=>exactλh=>.inl (by rw[cu h])
 | cons e r ih=>
  intro h;rw[tP] at h;by_cases z:e.1=x
  ·rw[ai z] at h
   rcases ku h with h|h
   ·exact .inl (by rw[h];exact z)
   ·exact .inr ⟨q,.tail _ h,rfl⟩
  ·rw[aa z] at h
   rcases ku h with h|h
   ·exact .inr ⟨e,.head _,by rw[h]⟩
   ·exact(ih h).imp id λx=>x.elim λq' y=>⟨q',.tail _ y.1,y.2⟩
theorem Ms(x:Str)(v:Va):∀ l:List (Str × Va),(cU x v l).length<=l.length+1:=by
 intro rr;induction rr with
 | nil=>exact f7 _
 | cons e r ih=>
  rw[tP];by_cases q:e.1=x
  ·rw[ai q];exact ki _
  ·rw[aa q];exact j8 (ih)
variable{v:Va}{kvs:List (Str × Va)}
theorem sA(ns:iE Ph){o:PO}(h:nY a=some o):rd Ph a=some o:=by
 unfold rd;cases q:Ph a with
 | none=>exact h
 | some o'=>have:=ns a o' q;rw[h] at this;cases this
theorem bW{o:Op Bool}{b:Bool}{Q:VQ}(h:o=some b)(hq:Q (.bool b) Ph):xG o Ph Q:=by rw[h];exact hq
theorem OZ{R:Va->Prop}{k:Str}(h:rd Ph a=some (.dict t kvs))(hk:aR k kvs=some v)(hq:R v):Ek (rd Ph a) λkvs=>BZ (aR k kvs) R:=by rw[h];show BZ (aR k kvs) R;rw[hk];exact hq
theorem O7(h:rd Ph a=some (.dict t kvs)):(match rd Ph a with
 | some (.dict ..)=>True
 | _=>False):=by rw[h];trivial
theorem OM{R:List (Str × Va)->Prop}(h:rd Ph a=some (.dict t kvs))(hq:R kvs):(match rd Ph a with
 | some (.dict _ kvs)=>R kvs
 | _=>False):=by rw[h];exact hq
theorem RL{R1:Nat × Nat->List Va->Prop}{R2:List Va->Prop}(h:rd Ph a=some (.tup vs))(hl:vs.length<big)(hq:R2 vs):(match rd Ph a with
 | some (.list t vs)=>vs.length<big/\R1 t vs
 | some (.tup vs)=>vs.length<big/\R2 vs
 | _=>False):=by rw[h];exact⟨hl,hq⟩
theorem QA(w:Wc)(n:Nm):eH 0 (s8 w n)=none:=by unfold s8;cases w.mn<;>rfl
noncomputable def bV:Nat->U->U
 | n+1,.seq _ u=>bV n u
 | _,u=>u
theorem vv{A:lE}{lk:Bool}{i:Nat}{k:Kp}{num ow nm ic pa at' na kv:Va}(h0:num=.int (A.num i) 0)(h1:ow=A.rf (some (qx i)))(h2:Pg A i lk=.none)(h3:nm=jG (qO i))(h4:ic=.bool (gM i))(h5:pa=A.rf (par i))(h6:at'=A.rf (gW i))(h7:na=jG (nat i))(hk:kv=k.kv):
  [(0,num),(1,ow),(2,.ref k.fd),(3,.none),(4,.bool false),(5,.none),(6,nm),(7,ic),(8,pa),(9,.none),(10,.ref k.md),(11,.ref k.cd),(12,.ref k.xd),(13,.ref k.ad),(14,at'),(15,na),(16,kv)]=lT A lk i k:=by unfold lT;rw[h0,h1,h2,h3,h4,h5,h6,h7,hk]
section
variable{m:Nat}{X:XP}{Q:VQ}{w:Wc}{C:Cont}{S:List Nat}{i:Nat}{x:Str}
theorem uA(z:Z w C S)(hl:x.length<big)(hq:Q .none z.P):Calls (m+1) 869 [.ref w.W,.str x 0] z.P X Q:=aB 71 rfl rfl rfl ⟨⟨hl,bl⟩,aG (v:=.ref w.nd) z.K.W rfl rfl rfl λq=>bW (inD (dG z.K.nd)) ⟨⟨hl,bl⟩,aG (v:=.ref w.pd) z.K.W rfl rfl rfl λq=>bW (inD (dG z.K.pd)) hq⟩⟩
noncomputable def Z.Bm(z:Z w C S)(hi:z.A.ad i=none)(hx:qO i=some x)(a:Ad)(num:Int)(hn:num<=z.n.N)(hj:∀ j b,z.A.ad j=some b->z.A.num j≠num):Z w C (i::S) where
 P:=upd z.P w.gO (.dict (0,0) (cU x (.ref a) z.n.md))
 A:=z.A.set i a num
 h:=z.h
 n:={ z.n with md:=cU x (.ref a) z.n.md }
 kp:=z.kp
 K:=
  have I:=rE hx
  z.K.open hi (gy I.1 ()) (λc o t u q p=>(aD q).trans p) (aA ..)
   (by have h1:=Ms x (.ref a) z.n.md;have h2:=vz (a:=a) (num:=num) hi I.1;have h3:=z.K.vC;show(cU x (.ref a) z.n.md).length+_<=_;lia)
   (λq hq=>(Fi hq).elim (λh=>by rw[h,I.2.1];exact Eh i I.1) λh=>h.elim λq' h=>by rw[<-h.2];exact z.K.w5 q' h.1)
   (λj y hy=>by
    have J:=rE hy;show aR y (cU x (.ref a) z.n.md)=_;rw[Lu];by_cases q:j=i
    ·subst q
     rw[ai (kr (hx.symm.trans hy)),set_same];rfl
    ·rw[aa λe=>q (LY j J.1 i I.1 (J.2.1.symm.trans (e.symm.trans I.2.1))),z.K.vB j y hy]
     exact aj _ (aa q).symm)
   ⟨rfl,rfl,rfl⟩ (λu u=>rfl) (λu u u=>rfl) rfl (λj q=>(aa λe=>absurd (k6 (e▸q) I.1) (ig _)).symm) z.K.wf hn hj
theorem Le.Bm{w':Wc}{C':Cont}{S':List Nat}{z0:Z w' C' S'}{z:Z w C S}(l:Le z0 z)(hi:z.A.ad i=none)(hx:qO i=some x)(a:Ad)(num:Int)(hn:num<=z.n.N)(hj:∀ j b,z.A.ad j=some b->z.A.num j≠num):Le z0 (z.Bm hi hx a num hn hj):=l.trans ⟨λc o q r t=>⟨(aD λe=>by rw[e,z.K.om] at t;rcases t with t|⟨_,t⟩<;>cases t).trans q,rfl⟩,bT hi⟩
end
section
noncomputable abbrev VM:List Bool:=[true,false,false,false,false,false,false,false,false]
noncomputable def QC(N:Int)(i:Nat)(k:Kp):List (Nat × Va):=eN 15 (.str (zp i) 0) (m0 (.int N 0) .none (.str (zp i) 0) (.bool (gM i)) .none .none k)
noncomputable def Om(N:Int)(i:Nat)(k:Kp)(pv ov:Va):List (Nat × Va):=eN 1 ov (eN 8 pv (QC N i k))
noncomputable def Up(W:Ad)(i:Nat)(a:Ad)(v4:Va):Lv:=(some (.ref W)::some (.str (zp i) 0)::some (.bool (gM i))::some (.ref a)::some v4::nN 4)
theorem dB{fs:List (Nat × Va)}(h:fs.length.ble 899=true):fs.length<900:=j6 (bl h)
section
variable{m:Nat}{X:XP}{w:Wc}{C:Cont}{S:List Nat}{i:Nat}{N:Int}
abbrev Du(n t:Nat)(W:Ad)(i:Nat)(a:Ad)(v4:Va)(P':PH)(X:XP)(Q:VQ):Prop:=wpS n VM (bV t iG) (Up W i a v4) P' (λe P'=>X e (bJ P')) (λq P'=>Q .none (bJ P')) (λv P'=>Q v (bJ P'))
structure Way(z:Z w C S)(z7:Z w C (i::S))(a:Ad)(k:Kp)(N:Int)(fs:List (Nat × Va)):Prop where
 le:Le z z7
 nw:Ds z a k
 c:Cells z7.P z7.h a k fs [] [] [] []
 ad:z7.A.ad i=some a
 num:z7.A.num i=N
theorem Way.go{z:Z w C S}{z7 z8:Z w C (i::S)}{k:Kp}{fs:List (Nat × Va)}(y:Way z z7 a k N fs)(l:Le z7 z8):Way z z8 a k N fs:=⟨y.le.trans l,y.nw,y.c.le l,(l.ad i a y.ad).1,(l.ad i a y.ad).2.trans y.num⟩
theorem Way.put{z:Z w C S}{z7:Z w C (i::S)}{k:Kp}{fs:List (Nat × Va)}(y:Way z z7 a k N fs)(fs':List (Nat × Va)):Way z (z7.put a (.inst 228 fs') y.c.ua) a k N fs':=⟨y.le.put _ y.nw.n0 _,y.nw,y.c.put fs',y.ad,y.num⟩
theorem Ja{Q:VQ}{z:Z w C S}{z7:Z w C (i::S)}{k:Kp}{e:Ad}{vs:List Va}{pv ov v4:Va}(I:i<12)(hi:z.A.ad i=none)(y:Way z z7 a k N (Om N i k pv ov))(hkp:k.kp=none)(he:z7.P e=none)(hpv:pv=z7.A.rf (par i))(hov:ov=z7.A.rf (some (qx i)))(hvs:vs=z7.A.dD (wu i))(hex:∀ j∈qx i::((par i).toList++wu i),∃ b,z7.A.ad j=some b)
  (hq:∀(z':Z w C S),Le z z'->z'.A.ad i=some a->Q (.ref a) z'.P):Du (m+2) 8 w.W i a v4 (upd (upd z7.P e (.list (0,0) vs)) a (.inst 228 (eN 12 (.ref e) (Om N i k pv ov)))) X Q:=by
 have hlk:C.lk i=false:=by
  cases q:C.lk i with
  | false=>rfl
  | true=>exact(z.K.lk i q).elim λb e=>by rw[hi] at e;cases e
 have B:=R8 i I;have c8:=y.c.le ((Le.refl z7).new (.list (0,0) vs) he);have ne:e≠k.ad:=λq=>by rw[q,y.c.ad] at he;cases he
 have c9:=c8.R9 (x:=e) (vs:=vs) (aA ..) (z7.un he) ne;have c10:=c9.put (eN 12 (.ref e) (Om N i k pv ov));let z8:=z7.new e (.list (0,0) vs) he;let EC:=z8.put a (.inst 228 (eN 12 (.ref e) (Om N i k pv ov))) c9.ua;have l10:Le z EC:=(y.le.new _ he).put _ y.nw.n0 c9.ua;have W:=z.K.wf.base i (.inl I);have fe:eN 12 (.ref e) (Om N i k pv ov)=lT EC.A (C.lk i) i { k with xd:=e }:=vv (k:={ k with xd:=e }) (by rw[show EC.A.num i=N from y.num]) hov (by rw[hlk];rfl) (by rw[B.1];rfl) rfl hpv (by rw[B.2.1];rfl) (by rw[(rE B.1).2.2];rfl) (by unfold Kp.kv;rw[show({ k with xd:=e }:Kp).kp=none from hkp];rfl);have hx10:EC.A.dD (C.c i).mx=vs:=by rw[W.2.1,hvs];rfl
 have hd:EC.A.dD (C.c i).ah=[]:=by rw[W.2.2];rfl
 have hm:((C.c i).mt.map λq=>(q.1,Value.ref (({ k with xd:=e }:Kp).ea q.1)))=[]:=by rw[z.K.wf.BS i (.inl I)];rfl
 have hc:((C.c i).ct.map λq=>(q.1,Value.int q.2 0))=[]:=by rw[W.1];rfl
 have c11:Cells EC.P EC.h a { k with xd:=e } (lT EC.A (C.lk i) i { k with xd:=e }) ((C.c i).mt.map λq=>(q.1,Value.ref (({ k with xd:=e }:Kp).ea q.1))) ((C.c i).ct.map λq=>(q.1,Value.int q.2 0)) (EC.A.dD (C.c i).mx) (EC.A.dD (C.c i).ah):=c10.cast fe hm.symm hc.symm hx10.symm hd.symm
 let BQ:=EC.close (k:={ k with xd:=e }) y.ad c11 (λq hq=>by rw[z.K.wf.BS i (.inl I)] at hq;cases hq) hkp (λj hj=>by
  unfold refsOf at hj;rw[B.2.1,hlk,W.2.1,W.2.2] at hj;refine hex j ?_
  simpa using hj)
 have nw11:Ds z a { k with xd:=e }:=⟨y.nw.n0,y.nw.n1,y.nw.n2,y.nw.n3,(Nw.none z7 he).of y.le,y.nw.n5⟩
 have l11:Le z BQ:=l10.Ss nw11 rfl rfl rfl;have go:Q (.ref a) (bJ BQ.P):=hq BQ.drop l11.drop y.ad;refine aG (v:=.bool w.ready) BQ.K.W rfl rfl rfl ?_;by_cases r:w.ready=true
 ·exact bt r (aU BQ.K.W LM.1 (by rw[LM.2];trivial) (uA BQ (Eh i I) go))
 ·exact bf (by simpa using r) go
end
end
section
variable{m:Nat}{w:Wc}{C:Cont}{S:List Nat}{i:Nat}{N:Int}
def qP(n k:Nat):Prop:=∀{w:Wc} {C:Cont} {S:List Nat} (z:Z w C S) (i:Nat) {x:Str} {X:XP} {Q:VQ},miss z.A<=k->qO i=some x->(∀(z':Z w C S) a,Le z z'->z'.A.ad i=some a->Q (.ref a) z'.P)->Calls n 857 [.ref w.W,.str x 0] z.P X Q
theorem Pw{X:XP}{Q:VQ}{z:Z w C S}{z5:Z w C (i::S)}{k:Kp}{pv ov v4:Va}{q:Nat}(ih:qP (m+2) q)(I:i<12)(hi:z.A.ad i=none)(y:Way z z5 a k N (Om N i k pv ov))(hkp:k.kp=none)(hm:miss z5.A<=q)(hpv:pv=z5.A.rf (par i))(hov:ov=z5.A.rf (some (qx i)))(hex:∀ j∈qx i::(par i).toList,∃ b,z5.A.ad j=some b)
  (hq:∀(z':Z w C S),Le z z'->z'.A.ad i=some a->Q (.ref a) z'.P):Du (m+2) 7 w.W i a v4 z5.P X Q:=by
 have hm':aR (zp i) LP=I9 i:=List.map_inj_left.mp LZ i (List.mem_range.mpr I);refine⟨λns=>O7 (sA (a:=792) (o:=.dict (0,0) LP) ns rfl),bl,λe he ns=>OM (sA (a:=792) (o:=.dict (0,0) LP) ns rfl) ?_⟩;rw[hm'];have y6:=y.go ((Le.refl z5).new (.tup []) he);let z6:=z5.new e (.tup []) he;rcases Pr i with⟨e1,e2⟩|⟨s,j,e1,e2,e3,e4⟩
 ·rw[e1]
  refineλu=>RL (vs:=[]) (dG (aA ..)) bl λl hl=>?_
  exact bQ (aI y6.c.at_ hl) rfl (dB rfl) (Ja (z7:=z6) I hi y6 hkp hl hpv hov (by rw[e2];rfl) (by rw[e2,jk];exact hex) hq)
 ·rw[e1]
  refineλns=>RL (sA ns e4) bl (aU z6.K.W oJ.1 (by rw[oJ.2];trivial) (ih z6 j hm e3 λz7 b l7 hb=>⟨λns=>sA ns e4,λl hl=>?_⟩))
  have y7:=y6.go l7;refine bQ (aI y7.c.at_ hl) rfl (dB rfl) (Ja (z7:=z7) I hi y7 hkp hl ?_ ?_ ?_ ?_ hq)
  ·exact hpv.trans (pJ l7.ad λj hj=>hex j (.tail _ hj)).symm
  ·exact hov.trans (Es l7.ad (hex _ (.head _))).symm
  ·rw[e2];show _=[z7.A.rf (some j)];rw[aQ hb];rfl
  ·intro y hy
   rw[e2] at hy;rcases ku hy with h|h
   ·exact(hex y (by rw[h];exact .head _)).imp λb x=>(l7.ad y b x).1
   ·rcases cy h with h|h
    ·exact(hex y (.tail _ h)).imp λb x=>(l7.ad y b x).1
    ·rw[cu h];exact⟨b,hb⟩
theorem Jb{X:XP}{Q:VQ}{z:Z w C S}{z5:Z w C (i::S)}{k:Kp}{pv v4:Va}{q:Nat}(ih:qP (m+2) q)(I:i<12)(hi:z.A.ad i=none)(y:Way z z5 a k N (eN 8 pv (QC N i k)))(hkp:k.kp=none)(hm:miss z5.A<=q)(hpv:pv=z5.A.rf (par i))(hex:∀ j∈(par i).toList,∃ b,z5.A.ad j=some b)
  (hq:∀(z':Z w C S),Le z z'->z'.A.ad i=some a->Q (.ref a) z'.P):Du (m+2) 6 w.W i a v4 z5.P X Q:=by
 refine aU z5.K.W oJ.1 (by rw[oJ.2];trivial) ?_
 have go:∀(z6:Z w C (i::S)) b,Le z5 z6->z6.A.ad (qx i)=some b->wk a 1 (.ref b) z6.P (λP'=>Du (m+2) 7 w.W i a v4 P' X Q):=λz6 b l6 hb=>by
  have y6:=y.go l6;refine bQ y6.c.at_ rfl (dB rfl) (Pw (z5:=z6.put a _ y6.c.ua) ih I hi (y6.put (Om N i k pv (.ref b))) hkp (fu (zj l6.ad) hm) ?_ (aQ hb).symm ?_ hq)
  ·exact hpv.trans (pJ l6.ad hex).symm
  ·intro j hj
   rcases ku hj with h|h
   ·rw[h];exact⟨b,hb⟩
   ·exact(hex j h).imp λb x=>(l6.ad j b x).1
 by_cases hC:gM i=true
 ·exact bt hC (ih z5 3 hm rfl λz6 b l6 hb=>go z6 b l6 (by unfold qx;rw[ai hC];exact hb))
 ·exact bf (by simpa using hC) (ih z5 2 hm rfl λz6 b l6 hb=>go z6 b l6 (by unfold qx;rw[aa hC];exact hb))
theorem Am:∀(k:Nat),qP (m+2*k+5) k:=by
 intro k;induction k with
 | zero=>
  intro w C S z i x X Q hk hx hq;have I:=rE hx;refine aB 69 rfl rfl rfl (aG (v:=.ref w.gO) z.K.W rfl rfl rfl ⟨mH z.K.gO,uW z.K.gO ?_⟩);rw[z.K.vB i x hx];cases ha:z.A.ad i with
  | some a=>exact⟨rfl,hq z a (Le.refl z) ha⟩
  | none=>exact absurd (vz (a:=0) (num:=0) ha I.1) (by lia)
 | succ k ih=>
  intro w C S z i x X Q hk hx hq;have I:=rE hx;have hx':=I.2.1;subst hx';refine aB 69 rfl rfl rfl (aG (v:=.ref w.gO) z.K.W rfl rfl rfl ⟨mH z.K.gO,uW z.K.gO ?_⟩);rw[z.K.vB i _ hx];cases hi:z.A.ad i with
  | some a=>exact⟨rfl,hq z a (Le.refl z) hi⟩
  | none=>
  refine⟨rfl,aU z.K.W RX.1 (by rw[RX.2];trivial) (fU 70 rfl rfl rfl λns=>bW (b:=gM i) (by rw[U5 (sA ns rfl),Js i I.1];exact aj some (Bool.not_not _)) ?_)⟩;refine aU z.K.W Ec.1 (by rw[Ec.2];exact QA w z.n) (iZ z ?_);let z1:=z.iB (z.n.N+1) z.n.V z.n.cv (g5 (eu _)) (eu _);have l1:Le z z1:=(Le.refl z).iB _ _
  refineλa ha=>aB 4 rfl rfl rfl (qt ha λP2 fd md cd xd ad M hM=>⟨rfl,?_⟩)
  let z2:=z1.pu P2 M.pu;have hn:∀ j b,z2.A.ad j=some b->z2.A.num j≠z.n.N+1:=λj b e q=>absurd (z.K.le j b e).1 (by rw[show z.A.num j=z.n.N+1 from q];lia);refine aG (v:=.ref w.gO) z2.K.W rfl rfl rfl (cX z2.K.gO (k6 (fu (Nat.le_add_right ..) z2.K.vC) ()) ?_);let z3:=z2.Bm hi hx a (z.n.N+1) (eu _) hn;have y3:Way z z3 a (k0 fd md cd xd ad) (z.n.N+1) (m0 (.int (z.n.N+1) 0) .none (.str (zp i) 0) (.bool (gM i)) .none .none (k0 fd md cd xd ad)):=⟨(l1.pu P2 M.pu).Bm hi hx a (z.n.N+1) (eu _) hn,M.nw.of l1,(M.cells rfl hM:Cells z2.P z2.h a _ _ _ _ _ _).le ((Le.refl z2).Bm hi hx a (z.n.N+1) (eu _) hn),set_same ..,ai rfl⟩
  have k3:miss z3.A<=k:=Nat.le_of_succ_le_succ (fu (vz (a:=a) (num:=z.n.N+1) hi I.1) hk);refine bQ y3.c.at_ rfl (dB rfl) ?_;have y4:=y3.put (QC (z.n.N+1) i (k0 fd md cd xd ad));let z4:=z3.put a (.inst 228 (QC (z.n.N+1) i (k0 fd md cd xd ad))) y3.c.ua
  refineλns=>OZ (v:=FY i) (sA (a:=789) (o:=.dict (0,0) iF) ns rfl) (List.map_inj_left.mp L4 i (List.mem_range.mpr I.1)) ?_
  have hq':∀(z':Z w C S),Le z z'->z'.A.ad i=some a->Q (.ref a) z'.P:=λz'=>hq z' a;cases q:par i with
  | none=>rw[show FY i=.none by unfold FY;rw[q]];exact⟨rfl,bQ y4.c.at_ rfl (dB rfl) (Jb (z5:=z4.put a _ y4.c.ua) (m:=m+2*k+3) ih I.1 hi (y4.put (eN 8 .none (QC (z.n.N+1) i (k0 fd md cd xd ad)))) rfl k3 (by rw[q];rfl) (by rw[q];intro j hj;cases hj) hq')⟩
  | some p=>
   rw[show FY i=.str (zp p) 0 by unfold FY;rw[q]];refine⟨rfl,aU z4.K.W oJ.1 (by rw[oJ.2];trivial) (ih z4 p k3 (Sn i I.1 p (mem_some q)) λz5 b l5 hb=>?_)⟩;have y5:=y4.go l5;refine bQ y5.c.at_ rfl (dB rfl) (Jb (z5:=z5.put a _ y5.c.ua) (m:=m+2*k+3) ih I.1 hi (y5.put (eN 8 (.ref b) (QC (z.n.N+1) i (k0 fd md cd xd ad)))) rfl (fu (zj l5.ad) k3) ?_ ?_ hq')
   ·rw[q];exact(aQ hb).symm
   ·rw[q];intro j hj;rw[cu hj];exact⟨b,hb⟩
end
section
theorem Vc:bO 1055 7=some 919/\bL 7=some 17:=⋯
theorem R6:bO 1055 19=some 982/\bL 19=none:=⋯
theorem FG:bO 1055 20=some 989/\bL 20=none:=⋯
theorem Pf{α:Type}{l:List α}{n:Nat}(h:l.length=n+1):∃ a r,l=a::r/\r.length=n:=by
 cases l with
 | nil=>cases h
 | cons a r=>exact⟨a,r,rfl,Nat.succ.inj h⟩
theorem Un{α:Type}{l:List α}(h:l.length=3):∃ a b c,l=[a,b,c]:=by obtain⟨a,r,e,h⟩:=Pf h;obtain⟨b,r',e',h⟩:=Pf h;obtain⟨c,r'',e'',h⟩:=Pf h;exact⟨a,b,c,by rw[e,e',e'',List.length_eq_zero_iff.mp h]⟩
theorem Qx{Ph:PH}{a:Ad}{R:Ad->Prop}(h:Ph a=some (.raw 785))(hq:R 785):(match Ph a with
 | some (.raw C)=>C=785/\R C
 | _=>False):=by rw[h];exact⟨rfl,hq⟩
theorem UN(w:Wc)(n:Nm):eH 17 (s8 w n)=none:=by unfold s8;cases w.mn<;>rfl
noncomputable def Uc(P:Params):Expr:=match jW P 989 with
 | [.Raise (some e) _ _]=>e
 | _=>default
noncomputable def Sp(P:Params):Pos:=match jW P 989 with
 | [.Raise _ _ p]=>p
 | _=>default
theorem Lo(P:Params):(fnAt P 989).body=.stmts [.Raise (some (Uc P)) none (Sp P)]:=by kernel_rfl
theorem OH(P:Params):AM (Kf P) 989 (fnAt P 989)=true:=by kernel_rfl
theorem Lr(P:Params):(Kf P).lookup 989=some (((Kf P).lookup 989).getD default):=by kernel_rfl
theorem Lq(P:Params):(((Kf P).lookup 989).getD default).data=.func (fnAt P 989):=by kernel_rfl
theorem Rl(P:Params):Ag (Kf P) 989 (fnAt P 989) [.Raise (some (Uc P)) none (Sp P)]:=AN (Lr P) (Lq P) (OH P) _ (Lo P)
theorem OJ(P:Params)(a b c:Va):sumOf (Kf P) (fnAt P 989) [a,b,c]=some (([ab a,ab b,ab c]:List Va).map some++[none]):=by kernel_rfl
theorem Lp(P:Params):rt (Kf P) (fnAt P 989).scope.names (some (Uc P)) none=.FZ (.aS (.loc 0) 19 (.cons (.loc 1) (.cons (.loc 2) .nil))):=by kernel_rfl
theorem OI(P:Params):jC (fnAt P 989).scope=false:=by kernel_rfl
section
variable{m:Nat}{X:XP}{Q:VQ}{w:Wc}{C:Cont}{S:List Nat}{i:Nat}{b:Ad}{x:Str}
theorem gX(z:Z w C S)(i:Nat)(hx:qO i=some x)(hq:∀(z':Z w C S) a,Le z z'->z'.A.ad i=some a->Q (.ref a) z'.P):Calls (m+29) 857 [.ref w.W,.str x 0] z.P X Q:=Am 12 z i (fu (Nat.le_add_left ..) z.K.vC) hx hq
theorem Ou(z:Z w C S){v:Va}(hq:∀(z':Z w C S) e,Le z z'->Q (.ref e) z'.P):Calls (m+30) 919 [.ref w.W,v] z.P X Q:=by
 refine aB 77 rfl rfl rfl (aU z.K.W Ec.1 (by rw[Ec.2];exact QA w z.n) (iZ z ?_));let z1:=z.iB (z.n.N+1) z.n.V z.n.cv (g5 (eu _)) (eu _);refine aU z1.K.W oJ.1 (by rw[oJ.2];trivial) (gX z1 7 rfl λz2 s l2 hs e he=>aB 1 rfl rfl rfl (nA (aA ..) rfl λP3 fd b3 j j h3 j=>bQ h3 rfl (dB rfl) ⟨rfl,?_⟩))
 have p:Pu z2.P (upd P3 e (.inst 62 (eN 17 v (UM (.int (z.n.N+1) 0) (.ref s) fd)))):=λc o q=>
  have n:c≠e:=λr=>by rw[r,he] at q;cases q
  (aD n).trans (b3 c o n ((aD n).trans q))
 exact hq (z2.pu _ p) e ((((Le.refl z).iB _ _).trans l2).pu _ p)
noncomputable def Ie(num:Va)(b fd t:Ad):List (Nat × Va):=[(0,num),(1,.ref b),(2,.ref fd),(3,.none),(4,.bool false),(5,.none),(19,.ref t),(20,.none)]
theorem K5(z:Z w C S){v:Va}(hi:qO i=some x)(hq:∀(z':Z w C S) e num b fd t,Le z z'->Nw z e->z'.h e=none->z'.P e=some (.inst 181 (Ie num b fd t))->z'.A.ad i=some b->Q (.ref e) z'.P):Calls (m+31) 982 [.ref w.W,.str x 0,v] z.P X Q:=by
 refine aB 81 rfl rfl rfl (aU z.K.W Ec.1 (by rw[Ec.2];exact QA w z.n) (iZ z ?_));let z1:=z.iB (z.n.N+1) z.n.V z.n.cv (g5 (eu _)) (eu _);refine aU z1.K.W oJ.1 (by rw[oJ.2];trivial) (gX z1 i hi λz2 s l2 hs=>aU z2.K.W Vc.1 (by rw[Vc.2];exact UN w z2.n) (Ou z2 λz3 t l3 e he=>aB 3 rfl rfl rfl (nA (aA ..) rfl λP4 fd b4 j j h4 j=>bQ h4 rfl (dB rfl) (bQ (aA ..) rfl (dB rfl) ⟨rfl,?_⟩))))
 have p:Pu z3.P (upd (upd P4 e (.inst 181 (eN 19 (.ref t) (UM (.int (z.n.N+1) 0) (.ref s) fd)))) e (.inst 181 (Ie (.int (z.n.N+1) 0) s fd t))):=λc o q=>
  have n:c≠e:=λr=>by rw[r,he] at q;cases q
  (aD n).trans ((aD n).trans (b4 c o n ((aD n).trans q)))
 have l:=(((Le.refl z).iB (g5 (eu _)) (eu _)).trans l2).trans l3;exact hq (z3.pu _ p) e (.int (z.n.N+1) 0) s fd t (l.pu _ p) ((Nw.none z3 he).of l) (z3.un he) (aA ..) (l3.ad i s hs).1
structure xA(z:Z w C S)(e:Ad):Prop where
 at_:∃ fs t num b fd u,z.P e=some (.exc 785 fs)/\eH 43 fs=some (.ref t)/\z.P t=some (.inst 181 (Ie num b fd u))/\z.A.ad 11=some b
theorem Cf(z:Z w C S){v:Va}(hX:∀(z':Z w C S) e,Le z z'->xA z' e->X e z'.P):Calls (m+33) 989 [.ref w.W,.str "NameError" 0,v] z.P X Q:=by
 refine Az (ql wd.params) (Rl wd.params) (λs args K hv=>?_) (Lp wd.params) (l0:=([.ref w.W,.str "NameError" 0,v]:List Va).map some++[none]) ?_
 ·have hl:args.length=3:=by simpa using aj List.length hv
  rw[<-hv];obtain⟨a0,a1,a2,rfl⟩:=Un hl;exact C6 (OJ wd.params a0 a1 a2) K
 ·refine aU z.K.W R6.1 (by rw[R6.2];trivial) (K5 z (i:=11) rfl λz2 t num b fd u l2 nt ut ht hb e he=>aB 66 rfl rfl rfl (aB 65 rfl rfl rfl (Qx (aA ..) (SN (aA ..) rfl (SO (aA ..) rfl (dB rfl) ⟨rfl,_,aA ..,?_⟩)))))
  have e':ret (fnAt wd.params 989).scope=λP'=>P':=by funext P';unfold ret;rw[OI];rfl
  rw[e'];have p:∀ o1 o2 o3 o4,Pu z2.P (upd (upd (upd (upd z2.P e o1) e o2) e o3) e o4):=λo1 o2 o3 o4=>((((Pu.refl z2.P).put o1 he).put o2 he).put o3 he).put o4 he;exact hX (z2.pu _ (p _ _ _ _)) e (l2.pu _ _) ⟨_,t,num,b,fd,u,aA ..,rfl,p _ _ _ _ _ _ ht,hb⟩
end
end
variable{α:Type}{x y:Str}{d:α}{l:List (Str × α)}
noncomputable def cR(x:Str)(d:α):List (Str × α)->List (Str × α)
 | []=>[(x,d)]
 | q::r=>if q.1=x then(q.1,d)::r else q::cR x d r
theorem zA{x:Str}{d:α}{q:Str × α}{r:List (Str × α)}:cR x d (q::r)=if q.1=x then(q.1,d)::r else q::cR x d r:=rfl
noncomputable def sJ(x:Str)(l:List (Str × α)):List (Str × α):=l.filter λq=>decide (q.1≠x)
theorem nL{q:Str × α}:∀{l:List (Str × α)},(l.map (·.1)).Nodup->q∈cR x d l->q=(x,d)\/q∈l/\q.1≠x:=by
 intro rr;induction rr with
 | nil=>exactλj h=>.inl (cu h)
 | cons e r ih=>
  intro n h;have n':=dj n;rw[zA] at h;by_cases z:e.1=x
  ·rw[ai z] at h
   exact(ku h).imp (λh=>by rw[h,z]) λh=>⟨.tail _ h,λy=>n'.1 (List.mem_map.mpr ⟨q,h,y.trans z.symm⟩)⟩
  ·rw[aa z] at h
   rcases ku h with h|h
   ·exact .inr ⟨by rw[h];exact .head _,by rw[h];exact z⟩
   ·exact(ih n'.2 h).imp id λy=>⟨.tail _ y.1,y.2⟩
theorem ye:∀{l:List (Str × α)},(l.map (·.1)).Nodup->((cR x d l).map (·.1)).Nodup:=by
 intro rr;induction rr with
 | nil=>exactλj=>dh ⟨gk,List.nodup_nil⟩
 | cons e r ih=>
  intro h;have h':=dj h;rw[zA];by_cases z:e.1=x
  ·rw[ai z];exact h
  ·rw[aa z]
   refine dh ⟨λm=>?_,ih h'.2⟩;obtain⟨q,hq,e1⟩:=List.mem_map.mp m;rcases nL h'.2 hq with rfl|hq
   ·exact z e1.symm
   ·exact h'.1 (List.mem_map.mpr ⟨q,hq.1,e1⟩)
theorem qA{g g':Str × α->Va}{v:Va}:∀{l:List (Str × α)},(l.map (·.1)).Nodup->g' (x,d)=v->(∀ q∈l,q.1≠x->g' q=g q)->cU x v (l.map λq=>(q.1,g q))=(cR x d l).map λq=>(q.1,g' q):=by
 intro rr;induction rr with
 | nil=>intro j hv j;show [(x,v)]=[(x,g' (x,d))];rw[hv]
 | cons e r ih=>
  intro h hv hg;have h':=dj h;rw[zA];show(if e.1=x then(e.1,v)::_ else(e.1,g e)::cU x v (r.map λq=>(q.1,g q)))=_;by_cases z:e.1=x
  ·rw[ai z,ai z,gn]
   rw[jy (l:=r) (f:=λq=>(q.1,g q)) (g:=λq=>(q.1,g' q)) λq hq=>by rw[hg q (.tail _ hq) λn=>h'.1 (List.mem_map.mpr ⟨q,hq,n.trans z.symm⟩)],<-hv,z]
  ·rw[aa z,aa z,gn,hg e (.head _) z,ih h'.2 hv λq hq=>hg q (.tail _ hq)]
theorem DO{g:Str × α->Va}:vd x (l.map λq=>(q.1,g q))=(sJ x l).map λq=>(q.1,g q):=by unfold vd sJ;rw[List.filter_map];rfl
theorem E2(h:(l.map (·.1)).Nodup):((sJ x l).map (·.1)).Nodup:=List.Nodup.sublist (List.Sublist.map _ (List.filter_sublist ..)) h
theorem qc{q:Str × α}(h:q∈sJ x l):q∈l:=(d9 h).1
noncomputable def Cont.upd(C:Cont)(i:Nat)(o:Co):Cont:={ C with c:=λj=>if j=i then o else C.c j }
noncomputable def Cont.setM(C:Cont)(i:Nat)(mt:List (Str × Ent)):Cont:=C.upd i { C.c i with mt:=mt }
section
variable{w:Wc}{C C':Cont}{S:List Nat}{i:Nat}{e:Ad}{d:Ent}{r:yt}{o:Co}{mt:List (Str × Ent)}
theorem fZ:(C.upd i o).c i=o:=ai rfl
theorem dH{j:Nat}(h:j≠i):(C.upd i o).c j=C.c j:=aa h
theorem tR(h:∀ j,(C'.c j).mx=(C.c j).mx/\(C'.c j).ah=(C.c j).ah):∀ k i,jO C' k i=jO C k i:=by
 intro rr;induction rr with
 | zero=>exactλq=>rfl
 | succ k ih=>
  intro i;show eK C' _ i=eK C _ i;unfold eK mQ;rw[(h i).1,(h i).2];cases par i with
  | none=>rfl
  | some p=>dsimp only;rw[ih p]
theorem eW(j:Nat):((C.setM i mt).c j).mx=(C.c j).mx/\((C.setM i mt).c j).ah=(C.c j).ah/\((C.setM i mt).c j).ct=(C.c j).ct:=by
 by_cases q:j=i
 ·subst q;unfold Cont.setM;rw[fZ];exact⟨rfl,rfl,rfl⟩
 ·unfold Cont.setM;rw[dH q];exact⟨rfl,rfl,rfl⟩
theorem jV.setM(W:jV C)(hi:¬ (i<12\/15<i/\i<19))(hn:(mt.map (·.1)).Nodup/\∀ q∈mt,q.1∈bH):jV (C.setM i mt) where
 base:=λj h=>by rw[(eW j).1,(eW j).2.1,(eW j).2.2];exact W.base j h
 BS:=λj h=>by unfold Cont.setM;rw[dH λq=>hi (by subst q;exact h)];exact W.BS j h
 us:=λj=>by rw[(eW j).1,(eW j).2.1];exact W.us j
 u5:=λj=>by rw[(eW j).1,(eW j).2.1];exact W.u5 j
 nd:=λj=>by
  by_cases q:j=i
  ·subst q;unfold Cont.setM;rw[fZ];exact hn
  ·unfold Cont.setM;rw[dH q];exact W.nd j
 nc:=λj=>by rw[(eW j).2.2];exact W.nc j
theorem F9(j:Nat):refsOf (C.setM i mt) j=refsOf C j:=by unfold refsOf;rw[(eW j).1,(eW j).2.1];rfl
theorem Core.setM{P P':PH}{A:lE}{h h':eT}{n:Nm}{kp:Nat->Kp}{k:Kp}(K:Core w C [] P A h n kp)(ha:A.ad i=some a)(W:jV (C.setM i mt))
  (hP:∀ c,c≠(kp i).md->P' c=P c) (hh:∀ c t,h c=some t->h' c=some t) (hs:∀ c t,h' c=some t->∃ o,P' c=some o/\o.bR=false)
  (hk:k={ kp i with tg:=k.tg,ea:=k.ea,er:=k.er }) (hm:P' (kp i).md=some (.dict k.tg (mt.map λq=>(q.1,.ref (k.ea q.1))))) (he:∀ q∈mt,P' (k.ea q.1)=some (.inst 256 (tK q.2 (k.er q.1)))/\h' (k.ea q.1)=some (9,99)):
  Core w (C.setM i mt) [] P' A h' n (λj=>if j=i then k else kp j):=
 have M:=K.mod i a ha nn;have na:∀{c t o},h c=some t->t≠(1,i)->P c=some o->P' c=some o:=λq r p=>(hP _ λx=>r (by subst x;exact kr (q.symm.trans M.om))).trans p
 K.chg ha (λc o t q r s p l=>⟨na q (λe=>r (by rw[e])) p,hh _ _ q⟩) (na K.oW eY K.W) (hh _ _ K.oW) hs
  (λj q=>⟨dH q,rfl⟩) rfl W (eu _) (eu _) rfl (λj y y=>tR (λj=>⟨(eW j).1,(eW j).2.1⟩) 12 j) (by rw[F9];exact K.ref i a ha nn) K.lk
  (by
   rw[hk];exact {
       at_:=na M.oa eY M.at_,fd:=na M.of eY M.fd
       md:=by rw[show(C.setM i mt).c i=_ from fZ];exact hm
       cd:=by rw[(eW i).2.2];exact na M.oc eY M.cd
       xd:=by rw[(eW i).1];exact na M.ox eY M.xd
       ad:=by rw[(eW i).2.1];exact na M.od eY M.ad
       ent:=λq hq=>by rw[show(C.setM i mt).c i=_ from fZ] at hq;exact he q hq
       kp:=λkt kl v ln e=>
        have k:=M.kp kt kl v ln e
        ⟨⟨na k.1.2.2.1 eY k.1.1,na k.1.2.2.2 eY k.1.2.1,hh _ _ k.1.2.2.1,hh _ _ k.1.2.2.2⟩,k.2.1,λe=>(k.2.2.1 e).trans (tR (λj=>⟨(eW j).1,(eW j).2.1⟩) 12 i).symm,k.2.2.2⟩
       oa:=hh _ _ M.oa,of:=hh _ _ M.of,om:=hh _ _ M.om,oc:=hh _ _ M.oc,ox:=hh _ _ M.ox,od:=hh _ _ M.od })
noncomputable def Z.setM(z:Z w C [])(ha:z.A.ad i=some a)(hi:¬ (i<12\/15<i/\i<19))(hx:x∈bH)(he:z.P e=some (.inst 256 (tK d r)))(ue:z.h e=none):Z w (C.setM i (cR x d (C.c i).mt)) [] where
 P:=upd z.P (z.kp i).md (.dict (0,0) (cU x (.ref e) ((C.c i).mt.map λq=>(q.1,.ref ((z.kp i).ea q.1)))))
 A:=z.A
 h:=eS z.h e (9,99)
 n:=z.n
 kp:=λj=>if j=i then { z.kp i with tg:=(0,0),ea:=λy=>if y=x then e else(z.kp i).ea y,er:=λy=>if y=x then r else(z.kp i).er y } else z.kp j
 K:=
  have K:=z.K;have M:=K.mod i a ha nn;have nd:=K.wf.nd i;have ne:e≠(z.kp i).md:=λq=>by rw[q,M.om] at ue;cases ue
  K.setM ha (K.wf.setM hi ⟨ye nd.1,λq hq=>(nL nd.1 hq).elim (λh=>by rw[h];exact hx) λh=>nd.2 q h.1⟩) (λc q=>aD q) (λc t q=>aY ue q)
   (λc t q=>stand rfl (by
    by_cases y:c=e
    ·exact⟨_,y▸he,rfl⟩
    ·rw[aM y] at q;exact K.rO c t q)) rfl
   ((aA ..).trans (aj (λv=>some (PO.dict (0,0) v)) (qA (g:=λq=>.ref ((z.kp i).ea q.1)) (g':=λq=>.ref (if q.1=x then e else(z.kp i).ea q.1)) nd.1 (aj Value.ref (ai rfl)) λq u n=>aj Value.ref (aa n))))
   (λq hq=>by
    have un:∀{c o},z.P c=some (.inst 256 o)->upd z.P (z.kp i).md (.dict (0,0) (cU x (.ref e) ((C.c i).mt.map λq=>(q.1,.ref ((z.kp i).ea q.1))))) c=some (.inst 256 o):=λp=>(aD λy=>by rw[y,M.md] at p;cases p).trans p;show upd z.P _ _ (if q.1=x then e else _)=some (.inst 256 (tK q.2 (if q.1=x then r else _)))/\eS z.h e (9,99) (if q.1=x then e else _)=_;rcases nL nd.1 hq with h|⟨hm,y⟩
    ·rw[h,ai rfl,ai rfl];exact⟨un he,bX ..⟩
    ·rw[aa y,aa y];exact⟨un (M.ent q hm).1,aY ue (M.ent q hm).2⟩)
theorem Le.setM{w':Wc}{C':Cont}{S':List Nat}{z0:Z w' C' S'}{z:Z w C []}(l:Le z0 z)(ha:z.A.ad i=some a)(hi:¬ (i<12\/15<i/\i<19))(hx:x∈bH)(he:z.P e=some (.inst 256 (tK d r)))(ue:z.h e=none)(ne:Nw z0 e):Le z0 (z.setM ha hi hx he ue):=⟨λc o q r k=>
 have y:=l.fr c o q r k
 ⟨(aD λx=>by
  rw[<-y.2,x,(z.K.mod i a ha nn).om] at k;rcases k with k|⟨t,k⟩<;>cases k
  exact absurd (z.K.le _ a ha).2 ()).trans y.1,(aM λx=>by subst x;exact ne o q r k).trans y.2⟩,l.ad⟩
noncomputable def Z.sL(z:Z w C [])(ha:z.A.ad i=some a)(hi:¬ (i<12\/15<i/\i<19))(x:Str):Z w (C.setM i (sJ x (C.c i).mt)) [] where
 P:=upd z.P (z.kp i).md (.dict (0,0) (vd x ((C.c i).mt.map λq=>(q.1,.ref ((z.kp i).ea q.1)))))
 A:=z.A
 h:=z.h
 n:=z.n
 kp:=λj=>if j=i then { z.kp i with tg:=(0,0),ea:=(z.kp i).ea,er:=(z.kp i).er } else z.kp j
 K:=
  have K:=z.K;have M:=K.mod i a ha nn;have nd:=K.wf.nd i
  K.setM ha (K.wf.setM hi ⟨E2 nd.1,λq hq=>nd.2 q (qc hq)⟩) (λc q=>aD q) (λc t q=>q) (λc t q=>stand rfl (K.rO c t q)) rfl
   ((aA ..).trans (aj (λv=>some (PO.dict (0,0) v)) (DO (g:=λq=>.ref ((z.kp i).ea q.1)))))
   λq hq=>⟨(aD λy=>by have p:=(M.ent q (qc hq)).1;rw[y,M.md] at p;cases p).trans (M.ent q (qc hq)).1,(M.ent q (qc hq)).2⟩
theorem Le.sL{w':Wc}{C':Cont}{S':List Nat}{z0:Z w' C' S'}{z:Z w C []}(l:Le z0 z)(ha:z.A.ad i=some a)(hi:¬ (i<12\/15<i/\i<19))(x:Str):Le z0 (z.sL ha hi x):=⟨λc o q r k=>
 have y:=l.fr c o q r k
 ⟨(aD λx=>by
  rw[<-y.2,x,(z.K.mod i a ha nn).om] at k;rcases k with k|⟨t,k⟩<;>cases k
  exact absurd (z.K.le _ a ha).2 ()).trans y.1,y.2⟩,l.ad⟩
end
section
theorem sB{a b:Str}{k:Nat}(h:a.length<=100*k)(h':b.length<=100):(a++b).length<=100*(k+1):=by have:(a++b).length=a.length+b.length:=Array.size_append;lia
theorem lB{a:Str}{k:Nat}(h:a.length<=100*k)(hk:k.ble 900=true):a.length<big:=k6 h (k6 (Nat.mul_le_mul_left 100 (bl hk)) ())
theorem wm{a b:Str}{k:Nat}{R:Prop}(h:a.length<=100*k)(hk:k.ble 900=true)(h':b.length<=100)(hq:(a++b).length<=100*(k+1)->R):(a.length<big/\b.length<big)/\R:=⟨⟨lB h hk,lB (k:=1) h' rfl⟩,hq (sB h h')⟩
theorem LO:bO 256 21=some 253/\bL 21=none:=⋯
section
variable{m:Nat}{X:XP}{Q:VQ}{P0:PH}{nm ow so bo si:Va}{e0:Ad}{d:Ent}{r:yt}{s:Str}{b:Ad}
theorem tE(hq:∀ P' e t,Pu P0 P'->P0 e=none->P' e=some (.inst 256 [(6,nm),(1,ow),(21,so),(22,.none),(23,bo),(24,si),(25,.ref t),(26,.none)])->Q (.ref e) P'):
  ∀ a,P0 a=none->Calls (m+1) 245 [.ref a,nm,ow,so,.none,bo,si] (upd P0 a (.inst 256 [])) X λv P'=>v=.none/\Q (.ref a) P':=λa ha=>by refine aB 8 rfl rfl rfl (bQ (aA ..) rfl (dB rfl) (bQ (aA ..) rfl (dB rfl) (bQ (aA ..) rfl (dB rfl) (bQ (aA ..) rfl (dB rfl) (bQ (aA ..) rfl (dB rfl) (bQ (aA ..) rfl (dB rfl) ⟨bl,λt ht=>bQ (aI (aA ..) ht) rfl (dB rfl) (bQ (aA ..) rfl (dB rfl) ⟨rfl,hq _ a t ?_ ha (aA ..)⟩)⟩))))));exact((((((((((Pu.refl P0).put _ ha).put _ ha).put _ ha).put _ ha).put _ ha).put _ ha).put _ ha).new _ ht).put _ ha).put _ ha
theorem vD{l3:Va}{v6:Op Va}(h0:P0 e0=some (.inst 256 (tK d r)))(hs:(l3=.none/\si=.str (UZ d) 0)\/∃ t,l3=.str t 0/\si=.str t 0)
  (hq:∀ P' e,Pu P0 P'->P0 e=none->P' e=some (.inst 256 [(6,nm),(1,ow),(21,.str (Ua d) 0),(22,.none),(23,T9 d),(24,si),(25,.ref r.nt),(26,.none)])->Q (.ref e) P'):
  wpS (m+2) (fF 6) fO [some (.ref e0),some nm,some ow,some l3,none,none] P0 X (λq P'=>Q .none P') Q:=by
 refine aG h0 rfl rfl rfl (aG h0 rfl rfl rfl (aG h0 rfl rfl (by cases d<;>rfl) ?_));have fin:∀ a,P0 a=none->Calls (m+1) 245 [.ref a,nm,ow,.str (Ua d) 0,.none,T9 d,si] (upd P0 a (.inst 256 [])) X λv P'=>v=.none/\wpS (m+2) (fF 6) (bV 1 fO) [some (.ref e0),some nm,some ow,some l3,some (.ref a),none] P' X (λq P'=>Q .none P') Q:=tE (Q:=λv P'=>wpS (m+2) (fF 6) (bV 1 fO) [some (.ref e0),some nm,some ow,some l3,some v,none] P' X (λq P'=>Q .none P') Q) λP' e t p f h=>aG (v:=.ref r.nt) (p _ _ h0) rfl rfl rfl (bQ h rfl (dB rfl) (aG (v:=.none) ((p.put _ f) _ _ h0) rfl rfl rfl (bQ (aA ..) rfl (dB rfl) (hq _ e ((p.put _ f).put _ f) f (aA ..)))));rcases hs with⟨rfl,rfl⟩|⟨t,rfl,rfl⟩
 ·exact⟨rfl,aG h0 rfl rfl rfl fin⟩
 ·exact⟨rfl,fin⟩
theorem K6(h0:P0 e0=some (.inst 256 (tK d r)))(hq:∀ P' e,Pu P0 P'->P0 e=none->P' e=some (.inst 256 (tK d ⟨x,b,r.nt⟩))->Q (.ref e) P'):Calls (m+3) 253 [.ref e0,.str x 0,.ref b] P0 X Q:=aB 9 rfl rfl rfl (vD (v6:=none) h0 (.inl ⟨rfl,rfl⟩) hq)
theorem An{q:Int × Str}(h0:P0 e0=some (.inst 256 (tK (some q) r)))(hq:∀ P' e,Pu P0 P'->P0 e=none->P' e=some (.inst 256 (tK (some (q.1,s)) ⟨r.nm,r.ow,r.nt⟩))->Q (.ref e) P'):Calls (m+4) 593 [.ref e0,.str s 0] P0 X Q:=aB 42 rfl rfl rfl (aU h0 LO.1 (by rw[LO.2];trivial) (aG (v:=.str r.nm 0) h0 rfl rfl rfl (aG (v:=.ref r.ow) h0 rfl rfl rfl (aB 10 rfl rfl rfl (vD (v6:=none) h0 (.inr ⟨s,rfl,rfl⟩) hq)))))
end
section
variable{m:Nat}{X:XP}{Q:VQ}{w:Wc}{C:Cont}{i:Nat}{e:Ad}{s:Str}{d:Ent}{r:yt}
theorem eG(z:Z w C [])(ha:z.A.ad i=some a)(hq:Q .none z.P):Calls (m+1) 537 [.ref w.W,.ref a] z.P X Q:=aB 34 rfl rfl rfl (aG (v:=.bool false) (z.at_ ha nn) rfl rfl rfl hq)
theorem zC(z:Z w C [])(i:Nat)(g:Str × Ent->Str × Va):((C.c i).mt.map g).length<big:=k6 (fu (gi (ef ..)) (z.K.wf.Jd i)) ()
noncomputable def Z.mS(z:Z w C [])(ha:z.A.ad i=some a)(hi:¬ (i<12\/15<i/\i<19))(hx:x∈bH)(he:z.P e=some (.inst 256 (tK d r)))(ue:z.h e=none):Z w (C.setM i (cR x d (C.c i).mt)) []:=(z.setM ha hi hx he ue).iB z.n.N (z.n.V+1) z.n.cv (eu _) (g5 (eu _))
theorem yF(z:Z w C [])(ha:z.A.ad i=some a)(hi:¬ (i<12\/15<i/\i<19))(hx:x∈bH)(he:z.P e=some (.inst 256 (tK d r)))(ue:z.h e=none)(hq:Q .none (z.mS ha hi hx he ue).P):Calls (m+2) 558 [.ref w.W,.ref a,.str x 0,.ref e] z.P X Q:=aB 37 rfl rfl rfl (eG z ha (aG (v:=.ref (z.kp i).md) (z.at_ ha nn) rfl rfl rfl (cX (z.K.mod i a ha nn).md (zC z i _) (fQ (z.setM ha hi hx he ue) hq))))
theorem Aq(z:Z w C [])(ha:z.A.ad i=some a)(hi:¬ (i<12\/15<i/\i<19))(hx:r.nm∈bH)(he:z.P e=some (.inst 256 (tK d r)))(ue:z.h e=none)(hq:Q .none (z.mS ha hi hx he ue).P):Calls (m+2) 551 [.ref w.W,.ref a,.ref e] z.P X Q:=aB 36 rfl rfl rfl (eG z ha (aG (v:=.ref (z.kp i).md) (z.at_ ha nn) rfl rfl rfl (aG (v:=.str r.nm 0) he rfl rfl rfl (cX (z.K.mod i a ha nn).md (zC z i _) (fQ (z.setM ha hi hx he ue) hq)))))
theorem Le.mS{w':Wc}{C':Cont}{S':List Nat}{z0:Z w' C' S'}{z:Z w C []}(l:Le z0 z)(ha:z.A.ad i=some a)(hi:¬ (i<12\/15<i/\i<19))(hx:x∈bH)(he:z.P e=some (.inst 256 (tK d r)))(ue:z.h e=none)(ne:Nw z0 e):Le z0 (z.mS ha hi hx he ue):=(l.setM ha hi hx he ue ne).iB _ _
theorem mw(z:Z w C [])(ha:z.A.ad i=some a)(h1:gW i=none)(h2:qO i=none)(h3:gM i=true)(hq:Q (.str "#<Class>" 0) z.P):Calls (m+1) 315 [.ref a] z.P X Q:=aB 14 rfl rfl rfl (aG (v:=.none) (z.at_ ha nn) rfl (by show some (z.A.rf (gW i))=_;rw[h1];rfl) rfl ⟨rfl,aG (v:=.none) (z.at_ ha nn) rfl (by show some (jG (qO i))=_;rw[h2];rfl) rfl ⟨rfl,aG (v:=.bool true) (z.at_ ha nn) rfl (by show some (Value.bool (gM i))=_;rw[h3]) rfl hq⟩⟩)
structure Ac(i:Nat):Prop where
 hi:¬ (i<12\/15<i/\i<19)
 gW:gW i=none
 qO:qO i=none
 gM:gM i=true
 nat:nat i=none
theorem Ac.of(h:i=12\/i=13\/i=14):Ac i:=by rcases h with rfl|rfl|rfl<;>exact⟨(),rfl,rfl,rfl,rfl⟩
theorem kR(z:Z w C [])(ha:z.A.ad i=some a)(U:Ac i)(hl:x.length<=100)(hq:∀(z':Z w C []) q e r,G7 z z'->aW C i x=some q->z'.P e=some (.inst 256 (tK (some q) r))->z'.h e=some (9,99)->Q (.ref e) z'.P)(hX:aW C i x=none->∀(z':Z w C []) e,Le z z'->xA z' e->X e z'.P):
  Calls (m+34) 572 [.ref w.W,.ref a,.str x 0] z.P X Q:=by
 refine aB 39 rfl rfl rfl (yx z ha λz1 v l1 hv=>?_);cases q:aW C i x with
 | some d=>rw[q] at hv;obtain⟨e,r,rfl,h1,h2⟩:=hv;exact⟨rfl,rfl,hq z1 d e r l1 q h1 h2⟩
 | none=>
  rw[q] at hv;have hv:v=.none:=hv;subst hv;have ha1:z1.A.ad i=some a:=by rw[l1.A];exact ha
  have le:∀{s:Str},s.length.ble 100=true->s.length<=100:=λh=>bl h;refine⟨rfl,aG (v:=.bool true) (z1.at_ ha1 nn) rfl (by show some (Value.bool (gM i))=_;rw[U.gM]) rfl ⟨rfl,aU z1.K.W FG.1 (by rw[FG.2];trivial) (wm (k:=1) (le rfl) rfl hl λb2=>wm b2 rfl (le rfl) λb3=>aB 38 rfl rfl rfl (aG (v:=.bool true) (z1.at_ ha1 nn) rfl (by show some (Value.bool (gM i))=_;rw[U.gM]) rfl (wm b3 rfl (le rfl) λb4=>wm b4 rfl (le rfl) λb5=>mw z1 ha1 U.gW U.qO U.gM (wm b5 rfl (le rfl) λb6=>wm b6 rfl (le rfl) λj=>Cf z1 λz2 e l2 hE=>hX q z2 e (l1.le.trans l2) hE))))⟩⟩
end
end
section
variable{m:Nat}{X:XP}{Q:VQ}{w:Wc}{C:Cont}{i:Nat}{e l:Ad}{s:Str}{d:Ent}{r:yt}{P0:PH}{v0:Va}
theorem fX(hq:Q (.str x 0) P0):Calls (m+1) 375 [v0,.str x 0] P0 X Q:=aB 15 rfl rfl rfl hq
def Raises(z:Z w C [])(X:XP):Prop:=∀(z':Z w C []) e,Le z z'->xA z' e->X e z'.P
def Ends(z:Z w C [])(C':Cont)(R:PH->Prop):Prop:=∀(z':Z w C' []),Le z z'->z'.A=z.A->R z'.P
theorem qk(hx:x∈bH):x.length<=100:=(by decide +kernel:∀ x∈bH,x.length<=100) x hx
theorem Ck(z:Z w C [])(ha:z.A.ad i=some a)(U:Ac i)(hx:x∈bH)(hq:∀ q,aW C i x=some q->Ends z (C.setM i (cR x none (C.c i).mt)) (Q .none))(hX:aW C i x=none->Raises z X):
  Calls (m+35) 579 [.ref w.W,.ref a,.str x 0] z.P X Q:=
 aB 40 rfl rfl rfl (kR z ha U (qk hx) (λz1 q e r l1 hf j j=>tE (Q:=λv P'=>Calls (m+34) 558 [.ref w.W,.ref a,.str x 0,v] P' X λj P'=>Q .none P') λP2 e t p2 f2 h2=>
  have ha1:z1.A.ad i=some a:=l1.A▸ha;have he:(z1.pu P2 p2).P e=some (.inst 256 (tK none ⟨x,a,t⟩)):=h2
  yF (m:=m+32) (z1.pu P2 p2) ha1 U.hi hx he (z1.un f2) (hq q hf _ ((l1.le.pu P2 p2).mS ha1 U.hi hx he (z1.un f2) ((Nw.none z1 f2).of l1.le)) l1.A)) hX)
theorem K3(z:Z w C [])(ha:z.A.ad i=some a)(U:Ac i)(hx:x∈bH)(hy:y∈bH)(hq:∀ q,aW C i y=some q->Ends z (C.setM i (cR x (some q) (C.c i).mt)) (Q .none))(hX:aW C i y=none->Raises z X):
  Calls (m+35) 600 [.ref w.W,.ref a,.str x 0,.str y 0] z.P X Q:=
 aB 43 rfl rfl rfl (kR z ha U (qk hy) (λz1 q e r l1 hf h1 j=>aG (v:=.str q.2 0) h1 rfl rfl rfl (An (m:=m+30) h1 λP2 e p2 f2 h2=>
  have ha1:z1.A.ad i=some a:=l1.A▸ha
  yF (m:=m+32) (z1.pu P2 p2) ha1 U.hi hx (d:=some q) h2 (z1.un f2) (hq q hf _ ((l1.le.pu P2 p2).mS ha1 U.hi hx h2 (z1.un f2) ((Nw.none z1 f2).of l1.le)) l1.A))) hX)
theorem Aw(z:Z w C [])(ha:z.A.ad i=some a)(U:Ac i)(hx:x∈bH)(hl:z.P l=some (.list t [.str x 0]))(ul:z.h l=none)
  (hq:∀ q,aW C i x=some q->Ends z (if q.2≠s\/(C.c i).mt.lookup x=none then C.setM i (cR x (some (q.1,s)) (C.c i).mt) else C) (Q .none)) (hX:aW C i x=none->Raises z X):
  Calls (m+35) 607 [.ref w.W,.ref a,.ref l,.str s 0] z.P X Q:=by
 refine aB 44 rfl rfl rfl (cP hl bl (kR z ha U (qk hx) (λz1 q e r l1 hf h1 j=>aG (v:=.str q.2 0) h1 rfl rfl rfl ?_) hX));have ha1:z1.A.ad i=some a:=l1.A▸ha;have pl:q.2≠s\/(C.c i).mt.lookup x=none->∀(P2:PH) (p2:Pu z1.P P2),wpS (m+34) (fF 10) (.seq (.expr (.call 558 (.cons (.loc 0) (.cons (.loc 1) (.cons (.loc 4) (.cons (.call 593 (.cons (.loc 5) (.cons (.loc 3) .nil))) .nil)))))) .skip) (some (.ref w.W)::some (.ref a)::some (.ref l)::some (.str s 0)::some (.str x 0)::some (.ref e)::nN 4) P2 X (λj P'=>P' l=some (.list t [.str x 0])/\Q .none P') λv P'=>Q v P':=λhc P2 p2=>by refine An (m:=m+30) (p2 _ _ h1) λP3 f p3 f3 h3=>?_;have p23:=p2.trans p3;have ff:=p2.un f3;have L:=(l1.le.pu P3 p23).mS ha1 U.hi hx h3 (z1.un ff) ((Nw.none z1 ff).of l1.le);refine yF (m:=m+32) (z1.pu P3 p23) ha1 U.hi hx h3 (z1.un ff) ⟨(L.fr l _ hl rfl (.inl ul)).1,?_⟩;have hq:=hq q hf;rw[ai hc] at hq;exact hq _ L l1.A
 have sk:¬ (q.2≠s\/(C.c i).mt.lookup x=none)->∀(P2:PH) (p2:Pu z1.P P2),P2 l=some (.list t [.str x 0])/\Q .none P2:=λhc P2 p2=>by have hq:=hq q hf;rw[aa hc] at hq;exact⟨((l1.le.pu P2 p2).fr l _ hl rfl (.inl ul)).1,hq (z1.pu P2 p2) (l1.le.pu P2 p2) l1.A⟩
 by_cases c1:q.2=s
 ·refine bf (by rw[au c1];rfl) (oY (m:=m+32) z1 ha1 (Pu.refl _) λP2 p2=>⟨jP _,?_⟩)
  cases c2:(C.c i).mt.lookup x with
  | none=>exact pl (.inr c2) P2 p2
  | some d=>exact sk (λh=>h.elim (λh=>h c1) λh=>by rw[c2] at h;cases h) P2 p2
 ·exact bt (by rw[av c1];rfl) (pl (.inl c1) z1.P (Pu.refl _))
theorem HE(z:Z w C [])(ha:z.A.ad i=some a)(U:Ac i)(hx:x∈bH)(hq:∀ q,(C.c i).mt.lookup x=some (some q)->Ends z (C.setM i (sJ x (C.c i).mt)) (Q .none))(hX:(C.c i).mt.lookup x=none\/(C.c i).mt.lookup x=some none->Raises z X):
  Calls (m+35) 586 [.ref w.W,.ref a,.str x 0] z.P X Q:=by
 refine aB 41 rfl rfl rfl (oY (m:=m+32) z ha (Pu.refl _) λP1 p1=>⟨jP _,?_⟩);let z1:=z.pu P1 p1;have l1:Le z z1:=(Le.refl z).pu P1 p1;have le:∀{s:Str},s.length.ble 100=true->s.length<=100:=λh=>bl h;have bad:∀{N:NP} {v3:Va},Raises z X->wpS (m+34) (fF 10) (match BK with|.seq _ (.seq (.bF _ u _) _)=>u|_=>.skip) (some (.ref w.W)::some (.ref a)::some (.str x 0)::some v3::nN 6) P1 X N Q:=λhR=>aU z1.K.W FG.1 (by rw[FG.2];trivial) (wm (k:=1) (le rfl) rfl (qk hx) λb2=>wm b2 rfl (le rfl) λb3=>mw z1 ha U.gW U.qO U.gM (wm b3 rfl (le rfl) λj=>Cf z1 λz2 e l2 hE=>hR z2 e (l1.trans l2) hE));cases q:(C.c i).mt.lookup x with
 | none=>exact bad (hX (.inl q))
 | some d=>
  have me:=(z1.K.mod i a ha nn).ent _ (zk q);refine aG me.1 rfl rfl rfl ?_;cases d with
  | none=>exact bad (hX (.inr q))
  | some q'=>refine eG (m:=m+33) z1 ha (aG (v:=.none) (z1.at_ ha nn) rfl (by show some (jG (nat i))=_;rw[U.nat];rfl) rfl ⟨rfl,aG (v:=.ref (z.kp i).md) (z1.at_ ha nn) rfl rfl rfl ⟨mH (z1.K.mod i a ha nn).md,So (z1.K.mod i a ha nn).md (zC z i _) (by rw[CO,q];rfl) (fQ (z1.sL ha U.hi x) ?_)⟩⟩);exact hq q' q _ ((l1.sL ha U.hi x).iB _ _) rfl
end
theorem tG:∀ l∈oG,∀ j∈([15,16]:List Nat),l.contains j=false->l++[j]∈oG:=⋯
theorem gF{l:List Nat}(h:l∈oG):l∈OA:=fh _ h
section
variable{w:Wc}{C:Cont}{i j:Nat}{b:Ad}{o:Co}
theorem S9{i k:Nat}(hi:i=12\/i=13\/i=14)(h:¬(k=12\/k=13\/k=14)):i≠k:=λe=>h (e▸hi)
theorem Uk{i:Nat}(hi:i=12\/i=13\/i=14):12<=i:=hi.elim (λe=>e▸f7 _) λh=>h.elim (λe=>e▸bl) λe=>e▸bl
theorem jV.MB(W:jV C)(hi:i=12\/i=13\/i=14)(h1:o.mt=(C.c i).mt)(h2:o.ct=(C.c i).ct)(h3:o.mx∈oG)(h4:o.ah∈oG):jV (C.upd i o) where
 base:=λj h=>by rw[dH λq=>by lia];exact W.base j h
 BS:=λj h=>by rw[dH λq=>by lia];exact W.BS j h
 us:=λj=>by
  by_cases q:j=i
  ·subst q;rw[fZ];exact⟨gF h3,gF h4⟩
  ·rw[dH q];exact W.us j
 u5:=λj=>by
  by_cases q:j=i
  ·subst q;rw[fZ];exactλy=>⟨h3,h4⟩
  ·rw[dH q];exact W.u5 j
 nd:=λj=>by
  by_cases q:j=i
  ·subst q;rw[fZ,h1];exact W.nd j
  ·rw[dH q];exact W.nd j
 nc:=λj=>by
  by_cases q:j=i
  ·subst q;rw[fZ,h2];exact W.nc j
  ·rw[dH q];exact W.nc j
noncomputable def Z.MB(z:Z w C [])(ha:z.A.ad i=some a)(hi:i=12\/i=13\/i=14)(h1:o.mt=(C.c i).mt)(h2:o.ct=(C.c i).ct)(h3:o.mx∈oG)(h4:o.ah∈oG)(hx:∀ y,y∈o.mx\/y∈o.ah->∃ b,z.A.ad y=some b)(P':PH)
  (hW:P' w.W=some (.inst 1055 (s8 w { z.n with V:=z.n.V+1 }))) (hxd:P' (z.kp i).xd=some (.list (0,0) (z.A.dD o.mx))) (had:P' (z.kp i).ad=some (.list (0,0) (z.A.dD o.ah))) (hP:∀ c t,z.h c=some t->t≠(3,i)->t≠(4,i)->t≠(5,50)->P' c=z.P c) (hs:∀ c t,z.h c=some t->∃ o,P' c=some o/\o.bR=false):Z w (C.upd i o) [] where
 P:=P'
 A:=z.A
 h:=z.h
 n:={ z.n with V:=z.n.V+1 }
 kp:=λy=>if y=i then z.kp i else z.kp y
 K:=
  have K:=z.K;have M:=K.mod i a ha nn;have l50:i≠50:=S9 hi ();have l99:i≠99:=S9 hi ();have g:∀{c t p},z.h c=some t->t≠(3,i)->t≠(4,i)->t≠(5,50)->z.P c=some p->P' c=some p:=λq r s t p=>(hP _ _ q r s t).trans p
  K.chg ha (λc p t q r s e j=>⟨g q (λy=>r (by rw[y])) (λy=>r (by rw[y])) s e,q⟩) hW K.oW
   hs
   (λy q=>⟨dH q,rfl⟩) rfl (K.wf.MB hi h1 h2 h3 h4) (g5 (eu _)) (eu _) rfl (λj j e=>absurd e (Int.ne_of_gt (Int.lt_succ z.n.V)))
   (λy hy=>by
    unfold refsOf at hy;rw[fZ] at hy;rcases ku hy with h|h
    ·exact K.ref i a ha nn y (by rw[h];exact tU ..)
    ·rcases cy h with h|h
     ·rcases cy h with h|h
      ·rcases cy h with h|h
       ·rcases cy h with h|h
        ·exact K.ref i a ha nn y (iO h)
        ·exact K.ref i a ha nn y (zh h)
       ·exact hx y (.inl h)
      ·exact hx y (.inr h)
     ·exact K.ref i a ha nn y (jd _ (fq _ h))) K.lk
   {at_:=g M.oa eY eY eY M.at_,fd:=g M.of eY eY (λe=>l50 (aj Prod.snd e)) M.fd
    md:=by rw[fZ,h1];exact g M.om eY eY eY M.md
    cd:=by rw[fZ,h2];exact g M.oc eY eY eY M.cd
    xd:=by rw[fZ];exact hxd
    ad:=by rw[fZ];exact had
    ent:=λq hq=>by rw[fZ,h1] at hq;exact⟨g (M.ent q hq).2 eY eY eY (M.ent q hq).1,(M.ent q hq).2⟩
    kp:=λkt kl v ln e=>
     have k:=M.kp kt kl v ln e
     ⟨⟨g k.1.2.2.1 eY eY eY k.1.1,g k.1.2.2.2 eY eY eY k.1.2.1,k.1.2.2⟩,jt k.2.1 (g5 (eu _)),λe=>absurd k.2.1 (by rw[e];exact Int.not_le.mpr (Int.lt_succ z.n.V)),k.2.2.2⟩
    oa:=M.oa,of:=M.of,om:=M.om,oc:=M.oc,ox:=M.ox,od:=M.od }
noncomputable def Co.wo(o:Co)(way:Bool)(j:Nat):Co:=if way then { o with ah:=o.ah++[j] } else { o with mx:=o.mx++[j] }
noncomputable def Co.X(o:Co)(way:Bool):List Nat:=if way then o.ah else o.mx
noncomputable def Z.wo(z:Z w C [])(ha:z.A.ad i=some a)(hi:i=12\/i=13\/i=14)(hb:z.A.ad j=some b)(hj:j∈([15,16]:List Nat))(way:Bool)(hn:((C.c i).X way).contains j=false):Z w (C.upd i ((C.c i).wo way j)) []:=
 have M:=z.K.mod i a ha nn;have u:=z.K.wf.u5 i (Uk hi);have ex:∀ y,y∈(C.c i).mx\/y∈(C.c i).ah->∃ b,z.A.ad y=some b:=λy h=>h.elim (λh=>z.K.ref i a ha nn y (vt h)) λh=>z.K.ref i a ha nn y (vq h)
 match way,hn with
 | false,hn=>z.MB ha hi rfl rfl (tG _ u.1 j hj hn) u.2 (λy h=>h.elim (λh=>(cy h).elim (λh=>ex y (.inl h)) λh=>⟨b,by rw[cu h];exact hb⟩) λh=>ex y (.inr h))
   (upd (upd z.P (z.kp i).xd (.list (0,0) (z.A.dD (C.c i).mx++[.ref b]))) w.W (.inst 1055 (s8 w { z.n with V:=z.n.V+1 }))) (aA ..)
   ((aD λe=>by have:=M.ox;rw[e,z.K.oW] at this;cases this).trans ((aA ..).trans (by rw[<-aQ hb];exact aj (λv=>some (PO.list (0,0) v)) (lq (A:=z.A) (C.c i).mx [j]))))
   ((aD λe=>by have:=M.od;rw[e,z.K.oW] at this;cases this).trans ((aD λe=>by have:=M.od;rw[e,M.ox] at this;cases this).trans M.ad))
   (λc t q r s v=>(aD λe=>v (by subst e;exact kr (q.symm.trans z.K.oW))).trans (aD λe=>r (by subst e;exact kr (q.symm.trans M.ox))))
   λc t q=>stand rfl (stand rfl (z.K.rO c t q))
 | true,hn=>z.MB ha hi rfl rfl u.1 (tG _ u.2 j hj hn) (λy h=>h.elim (λh=>ex y (.inl h)) λh=>(cy h).elim (λh=>ex y (.inr h)) λh=>⟨b,by rw[cu h];exact hb⟩)
   (upd (upd z.P (z.kp i).ad (.list (0,0) (z.A.dD (C.c i).ah++[.ref b]))) w.W (.inst 1055 (s8 w { z.n with V:=z.n.V+1 }))) (aA ..)
   ((aD λe=>by have:=M.ox;rw[e,z.K.oW] at this;cases this).trans ((aD λe=>by have:=M.od;rw[<-e,M.ox] at this;cases this).trans M.xd))
   ((aD λe=>by have:=M.od;rw[e,z.K.oW] at this;cases this).trans ((aA ..).trans (by rw[<-aQ hb];exact aj (λv=>some (PO.list (0,0) v)) (lq (A:=z.A) (C.c i).ah [j]))))
   (λc t q r s v=>(aD λe=>v (by subst e;exact kr (q.symm.trans z.K.oW))).trans (aD λe=>s (by subst e;exact kr (q.symm.trans M.od))))
   λc t q=>stand rfl (stand rfl (z.K.rO c t q))
end
section
section
variable{m:Nat}{X:XP}{Q:VQ}{w:Wc}{C:Cont}{i j:Nat}{b e l:Ad}{s:Str}{P0:PH}
theorem sd{n:Nm}(h:P0 w.W=some (.inst 1055 (s8 w n)))(hq:Q .none (upd P0 w.W (.inst 1055 (s8 w { n with V:=n.V+1 })))):Calls (m+1) 530 [.ref w.W] P0 X Q:=aB 33 rfl rfl rfl (aG (v:=.int n.V 0) h rfl rfl rfl (bQ h rfl (qL w n) hq))
theorem xe:lJ 228 228=true:=⋯
structure Plain(C:Cont)(j:Nat):Prop where
 ic:gM j=false
 mx:(C.c j).mx=[]
 ah:(C.c j).ah=[]
theorem Plain.of(W:jV C)(h:j∈([15,16]:List Nat)):Plain C j:=by have q:(j<12\/14<j)/\wu j=[]/\gM j=false:=(by decide +kernel:∀ j∈([15,16]:List Nat),(j<12\/14<j)/\wu j=[]/\gM j=false) j h;exact⟨q.2.2,(W.base j q.1).2.1.trans q.2.1,(W.base j q.1).2.2⟩
theorem pY(z:Z w C [])(hb:z.A.ad j=some b)(hp:gM j=false)(hq:Q .none z.P):Calls (m+1) 403 [.ref w.W,.ref b] z.P X Q:=aB 18 rfl rfl rfl ⟨rfl,bS (z.at_ hb nn) rfl (bt xe (aG (v:=.bool false) (z.at_ hb nn) rfl (by show some (Value.bool (gM j))=_;rw[hp]) rfl hq))⟩
theorem pZ(z:Z w C [])(ha:z.A.ad i=some a)(hb:z.A.ad j=some b)(hp:Plain C j)(hij:i≠j)(hq:∀ P',Pu z.P P'->Q .none P'):Calls (m+4) 614 [.ref w.W,.ref a,.ref b] z.P X Q:=by refine aB 45 rfl rfl rfl ⟨rfl,bS (z.at_ hb nn) rfl (bt xe (aG (v:=.bool false) (z.at_ hb nn) rfl (by show some (Value.bool (gM j))=_;rw[hp.ic]) rfl (mD (m:=m+2) z hb ⟨hp.mx,hp.ah⟩ (Pu.refl _) λP1 e p1 q h1=>?_)))⟩;have h1:(z.pu P1 p1).P e=some (.list (0,0) (z.A.dD [j])):=h1.trans (by rw[<-aQ hb];rfl);refine fV (z.pu P1 p1) h1 (λx hx=>by rw[cu hx];exact⟨b,hb⟩) ha bl (bf ?_ (hq P1 p1));rw[List.contains_cons,beq_eq_false_iff_ne.mpr hij];rfl
theorem Nr(z:Z w C [])(ha:z.A.ad i=some a)(way:Bool):∀ y∈(C.c i).X way,∃ b,z.A.ad y=some b:=λy h=>by
 cases way with
 | false=>exact z.K.ref i a ha nn y (vt h)
 | true=>exact z.K.ref i a ha nn y (vq h)
noncomputable def Co.inc(o:Co)(way:Bool)(j:Nat):Co:=if (o.X way).contains j then o else o.wo way j
theorem Le.wo{w':Wc}{C':Cont}{S':List Nat}{z0:Z w' C' S'}{z:Z w C []}(l:Le z0 z)(ha:z.A.ad i=some a)(hi:i=12\/i=13\/i=14)(hb:z.A.ad j=some b)(hj:j∈([15,16]:List Nat))(way:Bool)(hn:((C.c i).X way).contains j=false):Le z0 (z.wo ha hi hb hj way hn):=by
 have M:=z.K.mod i a ha nn
 have no:∀{c c' t},z0.h c=none\/(∃ t,z0.h c=some (t,99))->z.h c=z0.h c->z.h c'=some t->t.2≠99->c≠c':=λk q r n e=>by
  rw[<-q,e,r] at k;rcases k with k|⟨_,k⟩
  ·cases k
  ·exact n (aj Prod.snd (kr k))
 cases way with
 | false=>exact⟨λc o q r k=>have y:=l.fr c o q r k;⟨(aD (no k y.2 z.K.oW ())).trans ((aD (no k y.2 M.ox (by show i≠99;lia))).trans y.1),y.2⟩,l.ad⟩
 | true=>exact⟨λc o q r k=>have y:=l.fr c o q r k;⟨(aD (no k y.2 z.K.oW ())).trans ((aD (no k y.2 M.od (by show i≠99;lia))).trans y.1),y.2⟩,l.ad⟩
theorem Dn(C:Cont)(i:Nat):C.upd i (C.c i)=C:=by
 unfold Cont.upd
 have:(λj=>if j=i then C.c i else C.c j)=C.c:=funext λj=>by
  by_cases q:j=i
  ·rw[ai q,q]
  ·rw[aa q]
 rw[this]
theorem Ends.same{z:Z w C []}{R:PH->Prop}{o:Co}(h:Ends z (C.upd i o) R)(e:o=C.c i):Ends z C R:=by rw[e,Dn] at h;exact h
theorem EO(z:Z w C [])(ha:z.A.ad i=some a)(hi:i=12\/i=13\/i=14)(hb:z.A.ad j=some b)(hj:j∈([15,16]:List Nat))(hq:Ends z (C.upd i ((C.c i).inc false j)) (Q .none)):Calls (m+5) 621 [.ref w.W,.ref a,.ref b] z.P X Q:=by
 have hij:i≠j:=λq=>by subst q;rcases hi with rfl|rfl|rfl<;>exact absurd hj ()
 refine aB 46 rfl rfl rfl (pZ z ha hb (.of z.K.wf hj) hij λP1 p1=>eG (m:=m+3) (z.pu P1 p1) ha (aG (v:=.ref (z.kp i).xd) ((z.pu P1 p1).at_ ha nn) rfl rfl rfl (fV (m:=m+1) (z.pu P1 p1) ((z.pu P1 p1).K.mod i a ha nn).xd (Nr z ha false) hb (k6 (cK _ (z.K.wf.us i).1) ()) ?_)));have l1:Le z (z.pu P1 p1):=(Le.refl z).pu P1 p1;cases q:((C.c i).X false).contains j with
 | true=>exact bt q (hq.same (by unfold Co.inc;rw[q];rfl) _ l1 rfl)
 | false=>have M:=(z.pu P1 p1).K.mod i a ha nn;refine bf q (aG (v:=.ref (z.kp i).xd) ((z.pu P1 p1).at_ ha nn) rfl rfl rfl ⟨sj M.xd,Cb M.xd (w4 (cK _ (z.K.wf.us i).1)) (sd (n:=z.n) ((aD λe=>by have:z.h (z.kp i).xd=some (3,i):=M.ox;rw[<-e,z.K.oW] at this;cases this).trans (z.pu P1 p1).K.W) ?_)⟩);unfold Co.inc at hq;rw[q] at hq;exact hq ((z.pu P1 p1).wo ha hi hb hj false q) (l1.wo ha hi hb hj false q) rfl
theorem ES(z:Z w C [])(ha:z.A.ad i=some a)(hi:i=12\/i=13\/i=14)(hb:z.A.ad j=some b)(hj:j∈([15,16]:List Nat))(hq:Ends z (C.upd i ((C.c i).inc true j)) (Q .none)):Calls (m+5) 628 [.ref w.W,.ref a,.ref b] z.P X Q:=by
 have hij:i≠j:=λq=>by subst q;rcases hi with rfl|rfl|rfl<;>exact absurd hj ()
 refine aB 47 rfl rfl rfl (pZ z ha hb (.of z.K.wf hj) hij λP1 p1=>eG (m:=m+3) (z.pu P1 p1) ha (aG (v:=.ref (z.kp i).ad) ((z.pu P1 p1).at_ ha nn) rfl rfl rfl (fV (m:=m+1) (z.pu P1 p1) ((z.pu P1 p1).K.mod i a ha nn).ad (Nr z ha true) hb (k6 (cK _ (z.K.wf.us i).2) ()) ?_)));have l1:Le z (z.pu P1 p1):=(Le.refl z).pu P1 p1;cases q:((C.c i).X true).contains j with
 | true=>exact bt q (hq.same (by unfold Co.inc;rw[q];rfl) _ l1 rfl)
 | false=>have M:=(z.pu P1 p1).K.mod i a ha nn;refine bf q (aG (v:=.ref (z.kp i).ad) ((z.pu P1 p1).at_ ha nn) rfl rfl rfl ⟨sj M.ad,Cb M.ad (w4 (cK _ (z.K.wf.us i).2)) (sd (n:=z.n) ((aD λe=>by have:z.h (z.kp i).ad=some (4,i):=M.od;rw[<-e,z.K.oW] at this;cases this).trans (z.pu P1 p1).K.W) ?_)⟩);unfold Co.inc at hq;rw[q] at hq;exact hq ((z.pu P1 p1).wo ha hi hb hj true q) (l1.wo ha hi hb hj true q) rfl
theorem qW(z:Z w C [])(ha:z.A.ad i=some a)(hi:i=12\/i=13\/i=14)(hb:z.A.ad j=some b)(hj:j∈([15,16]:List Nat))(hl:z.P l=some (.list t [.ref b]))(ul:z.h l=none)(hq:Ends z (C.upd i ((C.c i).inc false j)) (Q (.ref a))):Calls (m+6) 684 [.ref w.W,.ref a,.ref l] z.P X Q:=by refine aB 55 rfl rfl rfl (cP hl bl (pY (m:=m+4) z hb (Plain.of z.K.wf hj).ic ⟨hl,zb hl bl λf hf=>cP (aA ..) bl ?_⟩));let z1:=z.new f (.list (0,0) [.ref b]) hf;exact EO (m:=m) z1 ha hi hb hj λz2 l2 A2=>⟨(l2.fr f _ (aA ..) rfl (.inl (z.un hf))).1,hq z2 (((Le.refl z).new _ hf).trans l2) A2⟩
theorem qX(z:Z w C [])(ha:z.A.ad i=some a)(hi:i=12\/i=13\/i=14)(hb:z.A.ad j=some b)(hj:j∈([15,16]:List Nat))(hl:z.P l=some (.list t [.ref b]))(ul:z.h l=none)(hq:Ends z (C.upd i ((C.c i).inc true j)) (Q (.ref a))):Calls (m+6) 691 [.ref w.W,.ref a,.ref l] z.P X Q:=by refine aB 56 rfl rfl rfl (cP hl bl (pY (m:=m+4) z hb (Plain.of z.K.wf hj).ic ⟨hl,zb hl bl λf hf=>cP (aA ..) bl ?_⟩));let z1:=z.new f (.list (0,0) [.ref b]) hf;exact ES (m:=m) z1 ha hi hb hj λz2 l2 A2=>⟨(l2.fr f _ (aA ..) rfl (.inl (z.un hf))).1,hq z2 (((Le.refl z).new _ hf).trans l2) A2⟩
theorem sI(z:Z w C [])(ha:z.A.ad i=some a)(U:Ac i)(hx:x∈bH)(hl:z.P l=some (.list t [.str x 0]))(ul:z.h l=none)(hq:∀ q,(C.c i).mt.lookup x=some (some q)->Ends z (C.setM i (sJ x (C.c i).mt)) (Q (.ref a)))(hX:(C.c i).mt.lookup x=none\/(C.c i).mt.lookup x=some none->Raises z X):
  Calls (m+36) 698 [.ref w.W,.ref a,.ref l] z.P X Q:=aB 57 rfl rfl rfl (cP hl bl (fX (m:=m+34) (HE (m:=m) z ha U hx (λq e z2 l2 A2=>⟨(l2.fr l _ hl rfl (.inl ul)).1,hq q e z2 l2 A2⟩) hX)))
theorem uD(z:Z w C [])(ha:z.A.ad i=some a)(U:Ac i)(hx:x∈bH)(hl:z.P l=some (.list t [.str x 0]))(ul:z.h l=none)(hq:∀ q,aW C i x=some q->Ends z (C.setM i (cR x none (C.c i).mt)) (Q (.ref a)))(hX:aW C i x=none->Raises z X):
  Calls (m+36) 705 [.ref w.W,.ref a,.ref l] z.P X Q:=aB 58 rfl rfl rfl (cP hl bl (fX (m:=m+34) (Ck (m:=m) z ha U hx (λq e z2 l2 A2=>⟨(l2.fr l _ hl rfl (.inl ul)).1,hq q e z2 l2 A2⟩) hX)))
theorem uC(z:Z w C [])(ha:z.A.ad i=some a)(U:Ac i)(hx:x∈bH)(hy:y∈bH)(hl:z.P l=some (.list t [.str x 0,.str y 0]))(hq:∀ q,aW C i y=some q->Ends z (C.setM i (cR x (some q) (C.c i).mt)) (Q (.str x 0)))(hX:aW C i y=none->Raises z X):
  Calls (m+36) 712 [.ref w.W,.ref a,.ref l] z.P X Q:=aB 59 rfl rfl rfl (cC (v:=.str x 0) hl () () rfl (fX (m:=m+34) (cC (v:=.str y 0) hl () () rfl (fX (m:=m+34) (K3 (m:=m) z ha U hx hy hq hX)))))
end
end
theorem FF:bO 1055 13=some 1038/\bL 13=none:=⋯
theorem LN:bO 1055 14=some 1017/\bL 14=none:=⋯
theorem RY:bO 1055 15=some 1045/\bL 15=none:=⋯
def KL(x:Str):Prop:=x="K"\/x="L"
theorem KL.key{x:Str}(h:KL x):x∈bH:=by rcases h with rfl|rfl<;>decide +kernel
theorem KL.tab{x:Str}(h:KL x):aR x iF=none:=by rcases h with rfl|rfl<;>decide +kernel
theorem KL.ne{x:Str}(h:KL x):decide (x="")=false:=by rcases h with rfl|rfl<;>decide +kernel
theorem Cv{k:Str}:∀{ct:List (Str × Int)},aR k (ct.map λq=>(q.1,.int q.2 0))=(ct.lookup k).map λv=>.int v 0:=by
 intro rr;induction rr with
 | nil=>exact rfl
 | cons q ct ih=>
  show(if q.1=k then _ else _)=_;by_cases e:q.1=k
  ·rw[ai e,f6,e,bg];rfl
  ·rw[aa e,f6,beq_eq_false_iff_ne.mpr (gz e)];exact ih
noncomputable def PJ:Op Int->List Va
 | none=>[.bool false,.none]
 | some v=>[.bool true,.int v 0]
noncomputable def se(C:Cont)(x:Str)(i:Nat):List Nat->Op Int
 | []=>none
 | j::r=>if j=1/\i≠1 then none else match (C.c j).ct.lookup x with
  | some v=>some v
  | none=>se C x i r
theorem tF{C:Cont}{x:Str}{i j:Nat}{r:List Nat}:se C x i (j::r)=if j=1/\i≠1 then none else match (C.c j).ct.lookup x with
  | some v=>some v
  | none=>se C x i r:=rfl
noncomputable def Cn(C:Cont)(i:Nat)(x:Str):Op Int:=se C x i (aX C i)
section
variable{m:Nat}{X:XP}{Q:VQ}{w:Wc}{C:Cont}{i j:Nat}{b e l:Ad}{s:Str}{P0:PH}{v0:Va}
theorem EP(hx:KL x)(hq:Q (.bool true) P0):Calls (m+1) 382 [.str x 0,.str "ABCDEFGHIJKLMNOPQRSTUVWXYZ" 0] P0 X Q:=aB 16 rfl rfl rfl (bf hx.ne ⟨⟨rfl,hx⟩,λq=>bW (b:=false) (by show Option.map _ (if _/\_ then _ else _)=_;rw[ai ⟨rfl,hx⟩];rfl) ⟨hx,⋯,hq⟩⟩)
theorem lG(hx:KL x)(hq:Q (.str x 0) P0):Calls (m+2) 389 [v0,.str x 0] P0 X Q:=aB 17 rfl rfl rfl ⟨trivial,rfl,EP hx hq⟩
theorem uE(z:Z w C [])(ha:z.A.ad i=some a)(hx:KL x)(p:Pu z.P P0)(hq:∀ P' e,Pu P0 P'->P0 e=none->P' e=some (.tup (PJ ((C.c i).ct.lookup x)))->Q (.ref e) P'):Calls (m+1) 1017 [.ref w.W,.ref a,.str x 0] P0 X Q:=by
 have M:=z.K.mod i a ha nn;have cd:=p _ _ M.cd;refine aB 83 rfl rfl rfl (aG (v:=.ref (z.kp i).cd) (p _ _ M.at_) rfl rfl rfl λj=>bW (inD (dG cd)) ?_);rw[Cv];cases q:(C.c i).ct.lookup x with
 | some v=>rw[q] at hq;exact aG (v:=.ref (z.kp i).cd) (p _ _ M.at_) rfl rfl rfl λj=>aO (v:=.int v 0) cd (by rw[Cv,q];rfl) ⟨bl,λe he=>hq _ e ((Pu.refl P0).new _ he) he (aA ..)⟩
 | none=>
  rw[q] at hq
  exactλns=>bW (b:=false) (by rw[inD (sA (a:=789) (o:=.dict (0,0) iF) ns rfl),hx.tab];rfl) ⟨bl,λe he=>hq _ e ((Pu.refl P0).new _ he) he (aA ..)⟩
theorem L5(o:Op Int):(PJ o)[(0:Int).toNat]?=some (.bool o.isSome):=by cases o<;>rfl
noncomputable def Hu:U:=match lK with
 | .seq _ (.seq (.loop _ _ b) _)=>b
 | _=>.skip
theorem E7(z:Z w C [])(ha:z.A.ad i=some a)(h1:z.A.ad 1=some b)(hx:KL x){N:NP}{lv:List Va}(hl:z.P l=some (.list t lv)):∀(r:List Nat) (P0:PH) (e:Ad) (v5:Op Va),Pu z.P P0->(∀ j∈r,∃ b,z.A.ad j=some b)->P0 e=some (.tup (PJ none))->(∀ P' e,Pu z.P P'->P' e=some (.tup (PJ (se C x i r)))->z.P e=none\/z.P e=P' e->Q (.ref e) P')->(z.P e=none\/z.P e=P0 e)->(∀ P' e v5,Q (.ref e) P'->N [some (.ref w.W),some (.ref a),some (.str x 0),some (.ref b),some (.ref e),v5,none,none] P')->cM (λv l P' k=>wpS (m+2) (fF 8) Hu (l.set 5 (some v)) (kD (fF 8) 5 P') X k Q) (λP'=>P' l=some (.list t lv)) (z.A.dD r) [some (.ref w.W),some (.ref a),some (.str x 0),some (.ref b),some (.ref e),v5,none,none] P0 N:=by
 intro rr;induction rr with
 | nil=>exactλP0 e v5 p u he hq hn hN=>hN P0 e v5 (hq P0 e p he hn)
 | cons j r ih=>
  intro P0 e v5 p hr he hq hn hN;obtain⟨c,hc⟩:=hr j (.head _);show cM _ _ (z.A.rf (some j)::z.A.dD r) _ _ _;rw[aQ hc];let y:=z.pu P0 p
  have go:¬ (j=1/\i≠1)->Calls (m+2) 1017 [.ref w.W,.ref c,.str x 0] P0 X λv P'=>wpS (m+2) (fF 8) (bV 2 Hu) [some (.ref w.W),some (.ref a),some (.str x 0),some (.ref b),some v,some (.ref c),none,none] P' X (λl' P'=>P' l=some (.list t lv)/\cM (λv l P' k=>wpS (m+2) (fF 8) Hu (l.set 5 (some v)) (kD (fF 8) 5 P') X k Q) (λP'=>P' l=some (.list t lv)) (z.A.dD r) l' P' N) Q:=λhj=>by
   refine uE (m:=m+1) z hc hx p λP2 f p2 hf h2=>oH (v:=.bool ((C.c j).ct.lookup x).isSome) h2 () () (L5 _) ?_;have nf:z.P f=none:=p.un hf;cases q:(C.c j).ct.lookup x with
   | some v=>exact hq P2 f (p.trans p2) (by rw[h2,q];rw[tF];rw[aa hj,q]) (.inl nf)
   | none=>rw[q] at h2;exact⟨(p.trans p2) _ _ hl,ih P2 f _ (p.trans p2) (λy hy=>hr y (.tail _ hy)) h2 (λP' e p' h'=>hq P' e p' (by rw[tF];rw[aa hj,q];exact h')) (.inl nf) hN⟩
  refine jA (m:=m) y hc h1 nn nn ?_;by_cases j1:j=1
  ·refine bt (au j1) (jA (m:=m) y ha h1 nn nn ?_)
   by_cases i1:i=1
   ·exact bt (au i1) (aU y.K.W LN.1 (by rw[LN.2];trivial) (go λh=>h.2 i1))
   ·refine bf (av i1) ⟨bl,λf hf=>hq _ f (p.new _ hf) ?_ (.inl (p.un hf))⟩
    rw[tF];rw[ai ⟨j1,i1⟩];exact aA ..
  ·exact bf (av j1) (aU y.K.W LN.1 (by rw[LN.2];trivial) (go λh=>j1 h.1))
theorem qU(z:Z w C [])(ha:z.A.ad i=some a)(hx:KL x)(hq:∀(z':Z w C []) e,Le z z'->z'.P e=some (.tup (PJ (Cn C i x)))->Q (.ref e) z'.P):Calls (m+30) 1038 [.ref w.W,.ref a,.str x 0] z.P X Q:=by refine aB 84 rfl rfl rfl (aU z.K.W oJ.1 (by rw[oJ.2];trivial) (gX z 1 rfl λz1 b l1 hb=>⟨bl,λe he=>⟨bl,λf hf=>nZ (aA ..) ⟨rfl,?_⟩⟩⟩));let z2:=(z1.new e (.tup (PJ none)) he).new f (.tup [.ref b,.ref e]) hf;have l2:Le z z2:=(l1.new _ he).new _ hf;have uX:z2.P e=some (.tup (PJ none)):=aI (aA ..) hf;refine qV (m:=m+10) 8 i z2 (qD i) (l1.ad i a ha).1 λz3 l L=>?_;have he3:=L.le.fr e _ uX rfl (.inl (z1.un he));refine cP L.at_ (k6 (fu (gi (fT _)) (kJ z.K.wf 12 i)) ()) ?_;rw[<-L.A];exact E7 (m:=m+27) z3 (by rw[L.A];exact(l1.ad i a ha).1) (by rw[L.A];exact hb) hx (by rw[L.at_,L.A]) (aX C i) z3.P e none (Pu.refl _) (λj hj=>by rw[L.A];exact L.ex j hj) he3.1 (λP' e' p' h' q=>hq (z3.pu P' p') e' ((l2.trans L.le).pu P' p') h') (.inr rfl) λP' e' v5 h=>h
end
theorem RZ:bO 1055 16=some 1052/\bL 16=none:=⋯
theorem R0:bO 1055 17=some 996/\bL 17=none:=⋯
theorem Ke:lJ 228 40=true:=⋯
theorem G9{behind:List Nat}{y:Nat}:∀(r:List Nat) (c:Nat) (found:List Nat),y∈mq behind c r found->y∈r\/y∈found:=by
 intro rr;induction rr with
 | nil=>exactλq q h=>.inr h
 | cons x r ih=>
  intro c found h;rcases ih (c-1) _ h with h|h
  ·exact .inl (.tail _ h)
  ·split at h
   ·rcases cy h with h|h
    ·exact .inr h
    ·rw[cu h];exact .inl (.head _)
   ·exact .inr h
theorem FA{C:Cont}{behind:List Nat}{i y:Nat}(h:y∈eK C behind i):y∈mQ C i\/y∈behind:=by
 rcases cy h with h|h
 ·exact .inl ((G9 _ _ _ h).resolve_right gk)
 ·exact .inr (d9 h).1
theorem Fw{C:Cont}(W:jV C):∀(k i:Nat),i<12->∀ j∈jO C k i,j<12:=by
 intro rr;induction rr with
 | zero=>exactλy y y h=>absurd h gk
 | succ k ih=>
  intro i hi j h;have B:=W.base i (.inl hi);have f:∀ i,i<12->(∀ j∈wu i,j<12)/\∀ p∈(par i).toList,p<12:=⋯;rcases FA (i:=i) h with h|h
  ·unfold mQ at h
   rw[B.2.1,B.2.2] at h;rcases ku h with h|h
   ·rw[h];exact hi
   ·exact(f i hi).1 j (d8 h)
  ·cases q:par i with
   | none=>rw[q] at h;cases h
   | some p=>rw[q] at h;exact ih p ((f i hi).2 p (mem_some q)) j h
theorem La{C:Cont}(W:jV C){x:Str}{i:Nat}:∀ ln:List Nat,(∀ j∈ln,j<12)->se C x i ln=none:=by
 intro rr;induction rr with
 | nil=>exactλq=>rfl
 | cons j r ih=>intro h;rw[tF];rw[(W.base j (.inl (h j (.head _)))).1,ih λy hy=>h y (.tail _ hy)];split<;>rfl
section
variable{m:Nat}{X:XP}{Q:VQ}{w:Wc}{C:Cont}{i j:Nat}{b e l:Ad}{s:Str}{P0:PH}{v0:Va}{n:Int}
theorem wA(z:Z w C [])(ha:z.A.ad i=some a)(U:Ac i)(hx:KL x)(i1:i≠1)(hc:Cn C i x=none)(hX:Raises z X):Calls (m+34) 1045 [.ref w.W,.ref a,.str x 0] z.P X Q:=by have le:∀{s:Str},s.length.ble 100=true->s.length<=100:=λh=>bl h;refine aB 85 rfl rfl rfl ⟨rfl,bS (z.at_ ha nn) rfl (bt xe (aU z.K.W FF.1 (by rw[FF.2];trivial) (qU (m:=m+3) z ha hx λz1 e l1 h1=>?_)))⟩;rw[hc] at h1;have ha1:=(l1.ad i a ha).1;refine nZ h1 ⟨rfl,aU z1.K.W oJ.1 (by rw[oJ.2];trivial) (gX (m:=m+4) z1 1 rfl λz2 b l2 hb=>jA (m:=m+31) z2 (l2.ad i a ha1).1 hb nn nn (bf (av i1) (mw (m:=m+32) z2 (l2.ad i a ha1).1 U.gW U.qO U.gM (wm (k:=1) (le rfl) rfl (le rfl) λb1=>?_))))⟩;exact aU z2.K.W FG.1 (by rw[FG.2];trivial) ⟨⟨lB (k:=1) (le rfl) rfl,lB b1 rfl⟩,⟨lB (k:=100) bl rfl,lB (k:=1) (qk hx.key) rfl⟩,Cf (m:=m) z2 λz3 e l3 hE=>hX z3 e ((l1.trans l2).trans l3) hE⟩
theorem sH(z:Z w C [])(ha:z.A.ad i=some a)(U:Ac i)(hx:KL x)(i1:i≠1)(hq:∀ v,Cn C i x=some v->∀(z':Z w C []),Le z z'->Q (.int v 0) z'.P)(hX:Cn C i x=none->Raises z X):Calls (m+35) 719 [.ref w.W,.ref a,.str x 0] z.P X Q:=by
 refine aB 60 rfl rfl rfl (aU z.K.W FF.1 (by rw[FF.2];trivial) (lG (m:=m+32) hx (qU (m:=m+4) z ha hx λz1 e l1 h1=>?_)));cases q:Cn C i x with
 | some v=>rw[q] at h1;exact nZ h1 ⟨rfl,hq v q z1 l1⟩
 | none=>rw[q] at h1;refine nZ h1 ⟨rfl,aU z1.K.W FF.1 (by rw[FF.2];trivial) (aU z1.K.W oJ.1 (by rw[oJ.2];trivial) (gX (m:=m+5) z1 1 rfl λz2 b l2 hb=>qU (m:=m+4) z2 hb hx λz3 f l3 h3=>?_))⟩;have c1:Cn C 1 x=none:=La z.K.wf _ λj hj=>Fw z.K.wf 12 1 () j hj;rw[c1] at h3;have l13:=(l1.trans l2).trans l3;exact nZ h3 ⟨rfl,aU z3.K.W RY.1 (by rw[RY.2];trivial) (wA (m:=m) z3 (l13.ad i a ha).1 U hx i1 q λz4 e l4 hE=>hX q z4 e (l13.trans l4) hE)⟩
theorem pX(z:Z w C [])(ha:z.A.ad i=some a)(U:Ac i)(hx:KL x)(i1:i≠1)(hl:z.P l=some (.list t [.str x 0]))(hq:∀ v,Cn C i x=some v->∀(z':Z w C []),Le z z'->Q (.int v 0) z'.P)(hX:Cn C i x=none->Raises z X):Calls (m+37) 733 [.ref w.W,.ref a,.ref l] z.P X Q:=by refine aB 62 rfl rfl rfl (cC (v:=.str x 0) hl () () rfl (fX (m:=m+35) (aB 61 rfl rfl rfl ⟨trivial,⟨rfl,hx⟩,λf hf=>cC (v:=.str x 0) (aA ..) () () rfl ?_⟩)));let z1:=z.new f (.list (0,0) [.str x 0]) hf;have l1:Le z z1:=(Le.refl z).new _ hf;refine sH (m:=m) z1 ha U hx i1 (λv e z2 l2=>zb (l2.fr f _ (aA ..) rfl (.inl (z.un hf))).1 bl λg hg=>cP (aA ..) bl (hq v e (z2.new g _ hg) ((l1.trans l2).new _ hg))) λe z2 g l2 hE=>hX e z2 g (l1.trans l2) hE
theorem wN(z:Z w C [])(ha:z.A.ad i=some a)(hq:Q .none z.P):Calls (m+1) 996 [.ref w.W,.ref a] z.P X Q:=aB 82 rfl rfl rfl ⟨rfl,bS (z.at_ ha nn) rfl (bt Ke (aG (v:=.bool false) (z.at_ ha nn) rfl rfl rfl hq))⟩
noncomputable def Cont.setC(C:Cont)(i:Nat)(ct:List (Str × Int)):Cont:=C.upd i { C.c i with ct:=ct }
theorem iK{ct:List (Str × Int)}(j:Nat):((C.setC i ct).c j).mx=(C.c j).mx/\((C.setC i ct).c j).ah=(C.c j).ah/\((C.setC i ct).c j).mt=(C.c j).mt:=by
 by_cases q:j=i
 ·subst q;unfold Cont.setC;rw[fZ];exact⟨rfl,rfl,rfl⟩
 ·unfold Cont.setC;rw[dH q];exact⟨rfl,rfl,rfl⟩
theorem jV.setC(W:jV C){ct:List (Str × Int)}(hi:i=12\/i=13\/i=14)(hn:(ct.map (·.1)).Nodup/\∀ q∈ct,q.1∈bH):jV (C.setC i ct) where
 base:=λj h=>by have:=W.base j h;rw[(iK j).1,(iK j).2.1];exact⟨by unfold Cont.setC;rw[dH λq=>by lia];exact this.1,this.2⟩
 BS:=λj h=>by rw[(iK j).2.2];exact W.BS j h
 us:=λj=>by rw[(iK j).1,(iK j).2.1];exact W.us j
 u5:=λj=>by rw[(iK j).1,(iK j).2.1];exact W.u5 j
 nd:=λj=>by rw[(iK j).2.2];exact W.nd j
 nc:=λj=>by
  by_cases q:j=i
  ·subst q;unfold Cont.setC;rw[fZ];exact hn
  ·unfold Cont.setC;rw[dH q];exact W.nc j
noncomputable def Z.setC(z:Z w C [])(ha:z.A.ad i=some a)(hi:i=12\/i=13\/i=14)(hx:x∈bH)(n:Int):Z w (C.setC i (cR x n (C.c i).ct)) [] where
 P:=upd z.P (z.kp i).cd (.dict (0,0) (cU x (.int n 0) ((C.c i).ct.map λq=>(q.1,.int q.2 0))))
 A:=z.A
 h:=z.h
 n:=z.n
 kp:=λj=>if j=i then z.kp i else z.kp j
 K:=
  have K:=z.K;have M:=K.mod i a ha nn;have nd:=K.wf.nc i;have sx:∀ j,((C.setC i (cR x n (C.c i).ct)).c j).mx=(C.c j).mx/\((C.setC i (cR x n (C.c i).ct)).c j).ah=(C.c j).ah:=λj=>⟨(iK j).1,(iK j).2.1⟩
  have na:∀{c t o},z.h c=some t->t≠(2,i)->z.P c=some o->upd z.P (z.kp i).cd (.dict (0,0) (cU x (.int n 0) ((C.c i).ct.map λq=>(q.1,.int q.2 0)))) c=some o:=λq r p=>(aD λx=>r (by subst x;exact kr (q.symm.trans M.oc))).trans p
  K.chg ha (λc o t q r s p l=>⟨na q (λe=>r (by rw[e])) p,q⟩) (na K.oW eY K.W) K.oW (λc t q=>stand rfl (K.rO c t q))
   (λj q=>⟨dH q,rfl⟩) rfl (K.wf.setC hi ⟨ye nd.1,λq hq=>(nL nd.1 hq).elim (λh=>by rw[h];exact hx) λh=>nd.2 q h.1⟩) (eu _) (eu _) rfl (λj y y=>tR sx 12 j)
   (by
    have:refsOf (C.setC i (cR x n (C.c i).ct)) i=refsOf C i:=by unfold refsOf;rw[(sx i).1,(sx i).2];rfl
    rw[this];exact K.ref i a ha nn) K.lk
   {at_:=na M.oa eY M.at_,fd:=na M.of eY M.fd
    md:=by rw[(iK i).2.2];exact na M.om eY M.md
    cd:=by rw[show(C.setC i (cR x n (C.c i).ct)).c i=_ from fZ];exact(aA ..).trans (aj (λv=>some (PO.dict (0,0) v)) (qA (g:=λq=>.int q.2 0) (g':=λq=>.int q.2 0) nd.1 rfl λy y y=>rfl))
    xd:=by rw[(sx i).1];exact na M.ox eY M.xd
    ad:=by rw[(sx i).2];exact na M.od eY M.ad
    ent:=λq hq=>by rw[(iK i).2.2] at hq;exact⟨na (M.ent q hq).2 eY (M.ent q hq).1,(M.ent q hq).2⟩
    kp:=λkt kl v ln e=>
     have k:=M.kp kt kl v ln e
     ⟨⟨na k.1.2.2.1 eY k.1.1,na k.1.2.2.2 eY k.1.2.1,k.1.2.2⟩,k.2.1,λe=>(k.2.2.1 e).trans (tR sx 12 i).symm,k.2.2.2⟩
    oa:=M.oa,of:=M.of,om:=M.om,oc:=M.oc,ox:=M.ox,od:=M.od }
theorem Le.setC{w':Wc}{C':Cont}{S':List Nat}{z0:Z w' C' S'}{z:Z w C []}(l:Le z0 z)(ha:z.A.ad i=some a)(hi:i=12\/i=13\/i=14)(hx:x∈bH)(n:Int):Le z0 (z.setC ha hi hx n):=⟨λc o q r k=>
 have y:=l.fr c o q r k
 ⟨(aD λx=>by
  rw[<-y.2,x,(z.K.mod i a ha nn).oc] at k;rcases k with k|⟨t,k⟩<;>cases k
  exact absurd (z.K.le _ a ha).2 ()).trans y.1,y.2⟩,l.ad⟩
theorem uH(z:Z w C [])(ha:z.A.ad i=some a)(hi:i=12\/i=13\/i=14)(hx:x∈bH)(hq:Ends z (C.setC i (cR x n (C.c i).ct)) (Q .none)):Calls (m+2) 1052 [.ref w.W,.ref a,.str x 0,.int n 0] z.P X Q:=by refine aB 86 rfl rfl rfl ⟨rfl,bS (z.at_ ha nn) rfl (bt xe (aU z.K.W R0.1 (by rw[R0.2];trivial) (wN z ha (aG (v:=.ref (z.kp i).cd) (z.at_ ha nn) rfl rfl rfl (cX (z.K.mod i a ha nn).cd (k6 (fu (gi (ef ..)) (z.K.wf.Tn i)) ()) ⟨rfl,?_⟩)))))⟩;let z1:=z.setC ha hi hx n;exact aG (v:=.int z1.n.cv 0) z1.K.W rfl rfl rfl (bQ z1.K.W rfl (qL w z1.n) (hq (z1.iB z1.n.N z1.n.V (z1.n.cv+1) (eu _) (eu _)) (((Le.refl z).setC ha hi hx n).iB _ _) rfl))
theorem lO(z:Z w C [])(ha:z.A.ad i=some a)(hi:i=12\/i=13\/i=14)(hx:KL x)(hl:z.P l=some (.list t [.str x 0,.int n 0]))(ul:z.h l=none)(hq:Ends z (C.setC i (cR x n (C.c i).ct)) (Q (.int n 0))):Calls (m+4) 740 [.ref w.W,.ref a,.ref l] z.P X Q:=aB 63 rfl rfl rfl (aU z.K.W RZ.1 (by rw[RZ.2];trivial) (cC (v:=.str x 0) hl () () rfl (fX (m:=m+2) (lG (m:=m+1) hx (cC (v:=.int n 0) hl () () rfl (uH (m:=m+1) z ha hi hx.key λz2 l2 A2=>cC (v:=.int n 0) (l2.fr l _ hl rfl (.inl ul)).1 () () rfl (hq z2 l2 A2)))))))
end
theorem Tp:bO 1055 1=some 884/\bL 1=none:=⋯
theorem Tq:bO 1055 2=some 891/\bL 2=none:=⋯
theorem U9:bO 1055 3=some 898/\bL 3=none:=⋯
theorem GV:bO 228 5=some 225/\bL 5=none:=⋯
theorem Vd:bO 1055 9=some 926/\bL 9=none:=⋯
noncomputable def vL(C:Cont):Nat->Op Nat->Nat
 | _,none=>3
 | 0,_=>3
 | k+1,some p=>if C.lk p then(cV p).getD 3 else vL C k (par p)
noncomputable def zw(C:Cont)(i:Nat):Nat:=if C.lk i then(cV i).getD 3 else vL C 8 (par i)
section
variable{m:Nat}{X:XP}{Q:VQ}{w:Wc}{C:Cont}{i j:Nat}{b e l:Ad}{s:Str}{P0:PH}{v0:Va}{n:Int}
theorem ze(z:Z w C [])(ha:z.A.ad i=some a)(hl:C.lk i=true)(ho:(cV i).isSome=true):∃ b,z.A.ad ((cV i).getD 3)=some b/\eH 3 (lT z.A (C.lk i) i (z.kp i))=some (.ref b):=by obtain⟨q,hq⟩:=cz ho;obtain⟨b,hb⟩:=z.K.ref i a ha nn q (I7 hl hq);refine⟨b,by rw[hq];exact hb,?_⟩;show some (Pg z.A i (C.lk i))=_;rw[hl];show some (z.A.rf (cV i))=_;rw[hq,aQ hb]
theorem zl(z:Z w C [])(hl:C.lk i=false):eH 3 (lT z.A (C.lk i) i (z.kp i))=some .none:=by show some (Pg z.A i (C.lk i))=_;rw[hl];rfl
def sF(C:Cont):Prop:=∀ i,C.lk i=true->(cV i).isSome=true
theorem Hp(z:Z w C [])(L:sF C){v0 v1:Op Va}{N:NP}(hN:vL C 8 (par i)=3->N [v0,v1,some .none] z.P)(hq:∀ d,z.A.ad (vL C 8 (par i))=some d->Q (.ref d) z.P):∀(k:Nat) (o:Op Nat),(∀ p∈o.toList,(∃ c,z.A.ad p=some c)/\rk p<k)->vL C k o=vL C 8 (par i)->sE (λl P' Q=>bE (m+1) (.prim .dU (.cons (.loc 2) (.cons (.con .none) .nil))) l P' X Q) (λl P' k=>wpS (m+1) [false,false,false] (match jI with|.seq _ (.seq (.s9 _ b) _)=>b|_=>.skip) l P' X k Q) (k+1) [v0,v1,some (z.A.rf o)] z.P N:=by
 intro k;induction k with
 | zero=>
  intro o h he;cases o with
  | none=>exact⟨rfl,hN (he.symm.trans rfl)⟩
  | some p=>exact absurd (h p (.head _)).2 (j0 _)
 | succ k ih=>
  intro o h he;cases o with
  | none=>exact⟨rfl,hN (he.symm.trans rfl)⟩
  | some p=>
  obtain⟨⟨c,hc⟩,hr⟩:=h p (.head _);have h2:z.A.rf (some p)=.ref c:=aQ hc;rw[h2];refine⟨rfl,?_⟩;by_cases hl:C.lk p=true
  ·obtain⟨d,hd,hg⟩:=ze z hc hl (L p hl)
   refine aG (v:=.ref d) (z.at_ hc nn) rfl hg rfl ⟨rfl,aG (v:=.ref d) (z.at_ hc nn) rfl hg rfl (hq d ?_)⟩;rw[<-he];show z.A.ad (if C.lk p=true then _ else _)=_;rw[ai hl];exact hd
  ·refine aG (v:=.none) (z.at_ hc nn) rfl (zl z (by simpa using hl)) rfl ⟨rfl,aG (z.at_ hc nn) rfl rfl (yh ..) (ih (par p) (λq hq=>⟨z.K.ref p c hc nn q (iO hq),gr (iJ (Option.mem_toList.mp hq)).1 (jq hr)⟩) ?_)⟩
   rw[<-he];show _=if C.lk p=true then _ else _
   rw[aa hl]
theorem HD(z:Z w C [])(L:sF C)(ha:z.A.ad i=some a)(U:Ac i)(hq:∀ d,z.A.ad (zw C i)=some d->Q (.ref d) z.P):Calls (m+3) 891 [.ref w.W,.ref a] z.P X Q:=by
 refine aB 74 rfl rfl rfl ⟨rfl,bS (z.at_ ha nn) rfl (bt Ke ?_)⟩;by_cases hl:C.lk i=true
 ·obtain⟨d,hd,hg⟩:=ze z ha hl (L i hl)
  exact aG (v:=.ref d) (z.at_ ha nn) rfl hg rfl ⟨rfl,aG (v:=.ref d) (z.at_ ha nn) rfl hg rfl (hq d (by unfold zw;rw[ai hl];exact hd))⟩
 ·have h3:∃ b,z.A.ad 3=some b:=z.K.ref i a ha nn 3 (by have:=tU C i;unfold qx at this;rwa [U.gM] at this)
  obtain⟨b,hb⟩:=h3;have eo:eH 1 (lT z.A (C.lk i) i (z.kp i))=some (.ref b):=by show some (z.A.rf (some (qx i)))=_;unfold qx;rw[U.gM];exact aj some (aQ hb)
  have eg:zw C i=vL C 8 (par i):=by unfold zw;rw[aa hl]
  refine aG (v:=.none) (z.at_ ha nn) rfl (zl z (by simpa using hl)) rfl ⟨rfl,rfl,bS (z.at_ ha nn) rfl (bt xe (aU z.K.W U9.1 (by rw[U9.2];trivial) (aB 75 rfl rfl rfl ?_)))⟩;refine aG (v:=.bool true) (z.at_ ha nn) rfl (by show some (Value.bool (gM i))=_;rw[U.gM]) rfl (aU (z.at_ ha nn) GV.1 (by rw[GV.2];trivial) (mz z ha nn ?_));rw[U.gW];refine aG (z.at_ ha nn) rfl rfl (yh ..) ⟨9,Hp z L (λe=>aG (v:=.ref b) (z.at_ ha nn) rfl eo rfl (hq b (by rw[eg,e];exact hb))) (λd hd=>hq d (by rw[eg];exact hd)) 8 (par i) (λq hq=>⟨z.K.ref i a ha nn q (iO hq),gr (iJ (Option.mem_toList.mp hq)).1 (ja (iJ (Option.mem_toList.mp hq)).2)⟩) rfl⟩
noncomputable def Km(num:Va)(a fd:Ad):List (Nat × Va):=[(0,num),(1,.ref a),(2,.ref fd),(3,.none),(4,.bool false),(5,.none)]
noncomputable def seen(xS:Bool):Ent->Bool
 | none=>false
 | some q=>xS||decide (q.2="public")
theorem xK{num:Va}{fd:Ad}{xS:Bool}(z:Z w C [])(ha:z.A.ad i=some a)(he:z.P e=some (.inst 40 (Km num a fd)))(hq:∀(z':Z w C []),G7 z z'->Q (.bool (seen xS (aW C i x))) z'.P):Calls (m+21) 635 [.ref w.W,.ref e,.str x 0,.bool xS] z.P X Q:=by
 refine aB 48 rfl rfl rfl (aU z.K.W Tq.1 (by rw[Tq.2];trivial) (aB 74 rfl rfl rfl ⟨rfl,bS he rfl (bt ⋯ (aG (v:=.none) he rfl rfl rfl ⟨rfl,rfl,bS he rfl (bf ⋯ (aG (v:=.ref a) he rfl rfl rfl (yx (m:=m) z ha λz1 v s1 hv=>?_)))⟩))⟩));have hq:=hq z1 s1;cases q:aW C i x with
 | none=>rw[q] at hv hq;have hv:v=.none:=hv;subst hv;exact⟨rfl,hq⟩
 | some d=>
  rw[q] at hv hq;obtain⟨f,r,rfl,h1,_⟩:=hv;refine⟨rfl,bt rfl ?_⟩;by_cases ev:xS=true
  ·refine bt ev ?_
   rw[ev] at hq;exact hq
  ·have ev:xS=false:=by simpa using ev
   refine bf ev (aG (v:=.str d.2 0) h1 rfl rfl rfl ?_);rw[ev] at hq;exact hq
theorem uF{num:Va}{fd:Ad}(z:Z w C [])(ha:z.A.ad i=some a)(he:z.P e=some (.inst 40 (Km num a fd)))(hl:z.P l=some (.list t [.str x 0]))(hq:∀(z':Z w C []),G7 z z'->Q (.bool (seen false (aW C i x))) z'.P):Calls (m+22) 642 [.ref w.W,.ref e,.ref l] z.P X Q:=aB 49 rfl rfl rfl (cC (v:=.str x 0) hl () () rfl (fX (m:=m+20) (IV hl bl (xK (m:=m) z ha he hq))))
theorem uG{num:Va}{fd:Ad}(z:Z w C [])(ha:z.A.ad i=some a)(he:z.P e=some (.inst 40 (Km num a fd)))(hl:z.P l=some (.list t [.str x 0,.bool true]))(hq:∀(z':Z w C []),G7 z z'->Q (.bool (seen true (aW C i x))) z'.P):Calls (m+22) 642 [.ref w.W,.ref e,.ref l] z.P X Q:=aB 49 rfl rfl rfl (cC (v:=.str x 0) hl () () rfl (fX (m:=m+20) (IV hl bl (cC (v:=.bool true) hl () () rfl (aB 11 rfl rfl rfl (xK (m:=m) z ha he hq))))))
theorem uy{p:Nat}(z:Z w C [])(ha:z.A.ad i=some a)(hp:par i=some p)(hb:z.A.ad p=some b)(hq:Q (.ref b) z.P):Calls (m+1) 747 [.ref w.W,.ref a,v0] z.P X Q:=aB 64 rfl rfl rfl (aG (v:=.ref b) (z.at_ ha nn) rfl (by show some (z.A.rf (par i))=_;rw[hp,aQ hb]) rfl hq)
theorem wM(z:Z w C [])(ha:z.A.ad i=some a)(hn:qO i=none)(hq:Q .none z.P):Calls (m+1) 670 [.ref w.W,.ref a,v0] z.P X Q:=aB 53 rfl rfl rfl (aG (v:=.none) (z.at_ ha nn) rfl (by show some (jG (qO i))=_;rw[hn];rfl) rfl ⟨rfl,hq⟩)
theorem uw{Cl:Ad}{fs:List (Nat × Va)}(he:P0 e=some (.inst Cl fs))(hs:(eX.lookup Cl).isSome=true)(hf:gS Cl 1=true){v:Va}(hg:eH 1 fs=some v)(hh:handedIn v=true)(hq:Q v P0):Calls (m+1) 884 [v0,.ref e] P0 X Q:=aB 73 rfl rfl rfl ⟨rfl,pn he hs (pn he hs (pn he hs (aG he hf hg hh hq)))⟩
noncomputable def RS(num:Va)(b fd l:Ad):List (Nat × Va):=[(0,num),(1,.ref b),(2,.ref fd),(3,.none),(4,.bool false),(5,.none),(18,.ref l)]
theorem wL(z:Z w C [])(ha:z.A.ad i=some a)(hq:∀(z':Z w C []) e num b fd l,Le z z'->z'.P e=some (.inst 82 (RS num b fd l))->z'.P l=some (.list (0,0) (z.A.dD (aX C i)))->(∀ y∈aX C i,∃ b,z.A.ad y=some b)->Q (.ref e) z'.P):Calls (m+31) 677 [.ref w.W,.ref a,v0] z.P X Q:=by
 refine aB 54 rfl rfl rfl (aU z.K.W Vd.1 (by rw[Vd.2];trivial) (qV (m:=m+11) 8 i z (qD i) ha λz1 l L=>aB 78 rfl rfl rfl (aU z1.K.W Ec.1 (by rw[Ec.2];exact QA w z1.n) (iZ z1 ?_))));let z2:=z1.iB (z1.n.N+1) z1.n.V z1.n.cv (g5 (eu _)) (eu _);have l2:Le z1 z2:=(Le.refl z1).iB _ _;refine aU z2.K.W oJ.1 (by rw[oJ.2];trivial) (gX (m:=m) z2 8 rfl λz3 b l3 hb=>tS (((l2.trans l3).fr l _ L.at_ rfl (.inr ⟨8,L.u⟩)).1) (k6 (fu (gi (fT _)) (kJ z.K.wf 12 i)) ()) λf hf e he=>aB 2 rfl rfl rfl (nA (aA ..) rfl λP4 fd b4 j j h4 j=>⟨rfl,bQ h4 rfl (dB rfl) ⟨rfl,?_⟩⟩));have fe:f≠e:=λq=>by rw[<-q,aA] at he;cases he
 have p:Pu (upd z3.P f (.list (0,0) (z.A.dD (aX C i)))) (upd P4 e (.inst 82 (RS (.int (z1.n.N+1) 0) b fd f))):=λc o q=>
  have n:c≠e:=λr=>by rw[r,he] at q;cases q
  (aD n).trans (b4 c o n ((aD n).trans q))
 exact hq ((z3.new f _ hf).pu _ p) e (.int (z1.n.N+1) 0) b fd f ((((L.le.trans l2).trans l3).new _ hf).pu _ p) (aA ..) (p _ _ (aA ..)) L.ex
end
theorem Vb:bO 1055 4=some 905/\bL 4=none:=⋯
theorem NN:bO 1055 8=some 961/\bL 8=some 43:=⋯
theorem R5:bO 1055 18=some 968/\bL 18=none:=⋯
noncomputable def vO:Nat->Nat->Op Str
 | 0,_=>none
 | k+1,i=>if (nat i).isNone||!(gW i).isNone then(match par i with
  | some p=>vO k p
  | none=>none) else nat i
theorem Mx{k i:Nat}:vO (k+1) i=if (nat i).isNone||!(gW i).isNone then(match par i with
  | some p=>vO k p
  | none=>none) else nat i:=rfl
noncomputable def rJ:Nat->Nat->Bool
 | 0,_=>false
 | k+1,i=>(match nat i with
  | some s=>!decide (s="Exception")
  | none=>true)&&(match par i with
  | some p=>rJ k p
  | none=>true)
theorem JJ{k i:Nat}:rJ (k+1) i=((match nat i with
  | some s=>!decide (s="Exception")
  | none=>true)&&(match par i with
  | some p=>rJ k p
  | none=>true)):=rfl
section
variable{m:Nat}{X:XP}{Q:VQ}{w:Wc}{C:Cont}{i j:Nat}{b e l:Ad}{s:Str}{P0:PH}{v0:Va}{n:Int}
theorem dF{S:List Nat}(z:Z w C S)(hx:qO i=some x)(ha:z.A.ad i=some a)(hq:Q (.ref a) z.P):Calls (m+1) 857 [.ref w.W,.str x 0] z.P X Q:=by refine aB 69 rfl rfl rfl (aG (v:=.ref w.gO) z.K.W rfl rfl rfl ⟨mH z.K.gO,uW z.K.gO ?_⟩);rw[z.K.vB i x hx,ha];exact⟨rfl,hq⟩
theorem Gd(z:Z w C []){N:NP}{v0:Op Va}:∀(k i:Nat) (a:Ad),z.A.ad i=some a->vO k i=some s->(∀ a fs,z.P a=some (.inst 228 fs)->eH 15 fs=some (.str s 0)->N [v0,some (.ref a)] z.P)->sE (λl P' Q=>bE (m+1) (.or (.prim .is (.cons (.attr (.loc 1) 15) (.cons (.con .none) .nil))) (.aS (.loc 1) 5 .nil)) l P' X Q) (λl P' k=>wpS (m+1) [false,false] (.seq (.dR 1 (.attr (.loc 1) 8)) .skip) l P' X k Q) k [v0,some (.ref a)] z.P N:=by
 intro rr;induction rr with
 | zero=>exactλj j j h j=>by cases h
 | succ k ih=>
  intro i a ha h hN;have M:=z.at_ ha nn;rw[Mx] at h
  have up:((nat i).isNone||!(gW i).isNone)=true->wpS (m+1) [false,false] (.seq (.dR 1 (.attr (.loc 1) 8)) .skip) [v0,some (.ref a)] z.P X (λl' P'=>sE (λl P' Q=>bE (m+1) (.or (.prim .is (.cons (.attr (.loc 1) 15) (.cons (.con .none) .nil))) (.aS (.loc 1) 5 .nil)) l P' X Q) (λl P' k=>wpS (m+1) [false,false] (.seq (.dR 1 (.attr (.loc 1) 8)) .skip) l P' X k Q) k l' P' N) Q:=λq=>by
   rw[ai q] at h;cases hp:par i with
   | none=>rw[hp] at h;cases h
   | some p=>rw[hp] at h;obtain⟨c,hc⟩:=z.K.ref i a ha nn p (iO (mem_some hp));exact aG (v:=.ref c) M rfl (by show some (z.A.rf (par i))=_;rw[hp,aQ hc]) rfl (ih p c hc h hN)
  refine aG M rfl rfl (tY _) ⟨mP _,?_⟩;cases hn:nat i with
  | none=>exact bt rfl (up (by rw[hn];rfl))
  | some s'=>
   refine bf rfl (aU M GV.1 (by rw[GV.2];trivial) (mz z ha nn ?_));cases ht:(gW i).isNone with
   | false=>exact bt rfl (up (by rw[ht];exact Bool.or_true _))
   | true=>rw[hn,ht] at h;refine bf rfl (hN a _ M ?_);show some (jG (nat i))=_;rw[hn];exact aj (λs=>some (Value.str s 0)) (kr h)
theorem ET(z:Z w C [])(ha:z.A.ad i=some a)(h:vO 8 i=some s)(hq:Q (.str s 0) z.P):Calls (m+2) 905 [.ref w.W,.ref a] z.P X Q:=aB 76 rfl rfl rfl ⟨8,Gd z 8 i a ha h λa fs h1 h2=>aG h1 rfl h2 rfl hq⟩
theorem Ig(z:Z w C []){N:NP}{v0:Op Va}:∀(k:Nat) (o:Op Nat),(∀ p∈o.toList,(∃ c,z.A.ad p=some c)/\rJ k p=true)->N [v0,some .none] z.P->sE (λl P' Q=>bE m (.prim .dU (.cons (.loc 1) (.cons (.con .none) .nil))) l P' X Q) (λl P' k=>wpS m [false,false] (match eE with|.seq (.s9 _ b) _=>b|_=>.skip) l P' X k Q) (k+1) [v0,some (z.A.rf o)] z.P N:=by
 intro k;induction k with
 | zero=>
  intro o h hN;cases o with
  | none=>exact⟨rfl,hN⟩
  | some p=>have:=(h p (.head _)).2;cases this
 | succ k ih=>
  intro o h hN;cases o with
  | none=>exact⟨rfl,hN⟩
  | some p=>
  obtain⟨⟨c,hc⟩,hp⟩:=h p (.head _);rw[JJ] at hp;rw[e9] at hp;have M:=z.at_ hc nn;rw[aQ hc];have up:wpS m [false,false] (.seq (.dR 1 (.attr (.loc 1) 8)) .skip) [v0,some (.ref c)] z.P X (λl' P'=>sE (λl P' Q=>bE m (.prim .dU (.cons (.loc 1) (.cons (.con .none) .nil))) l P' X Q) (λl P' k=>wpS m [false,false] (match eE with|.seq (.s9 _ b) _=>b|_=>.skip) l P' X k Q) (k+1) l' P' N) Q:=aG M rfl rfl (yh ..) (ih (par p) (λq hq=>⟨z.K.ref p c hc nn q (iO hq),by have:=hp.2;rw[Option.mem_toList.mp hq] at this;exact this⟩) hN);cases hn:nat p with
  | none=>exact⟨rfl,aG (v:=.none) M rfl (by show some (jG (nat p))=_;rw[hn];rfl) rfl up⟩
  | some s=>
   refine⟨rfl,aG (v:=.str s 0) M rfl (by show some (jG (nat p))=_;rw[hn];rfl) rfl (bf ?_ up)⟩;have:=hp.1;rw[hn] at this
   simpa using this
theorem Cg(z:Z w C [])(ha:z.A.ad i=some a)(h:rJ 8 i=true)(hq:Q (.bool false) z.P):Calls (m+1) 968 [.ref w.W,.ref a] z.P X Q:=by refine aB 80 rfl rfl rfl ⟨9,?_⟩;have:=Ig (m:=m) (X:=X) (Q:=Q) (v0:=some (.ref w.W)) (N:=λq P'=>Q (.bool false) P') z 8 (some i) (λp hp=>by rw[cu hp];exact⟨⟨a,ha⟩,h⟩) hq;rw[aQ ha] at this;exact this
end
section
theorem MZ(w:Wc)(n:Nm):eH 43 (s8 w n)=none:=by unfold s8;cases w.mn<;>rfl
theorem Qu:nY 800=some (.tup [.str "NilClass" 0,.str "TrueClass" 0,.str "FalseClass" 0,.str "Integer" 0,.str "Numeric" 0,.str "Symbol" 0]):=rfl
section
variable{m:Nat}{X:XP}{Q:VQ}{w:Wc}{C:Cont}{i j:Nat}{b e l:Ad}{s:Str}{P0:PH}{v0:Va}{n:Int}
noncomputable def S2(k:Nat):U:=bV k oQ
theorem pK(z:Z w C [])(ha:z.A.ad i=some a)(ht:gW i=none)(hr:vO 8 i=some s)(hu:gB s [.str "NilClass" 0,.str "TrueClass" 0,.str "FalseClass" 0,.str "Integer" 0,.str "Numeric" 0,.str "Symbol" 0]=some false)(hs:∀ q∈(["String","Array","Hash","Range","Fiber","Proc"]:List Str),decide (s=q)=false)
  (hq:∀ z':Z w C [],Le z z'->z'.A=z.A->z'.n.N=z.n.N+1->wpS (m+3) (fF 15) (S2 9) (some (.ref w.W)::some (.ref a)::some (.str s 0)::some (.int (z.n.N+1) 0)::nN 11) z'.P X (λj P'=>Q .none P') Q):Calls (m+4) 961 [.ref w.W,.ref a] z.P X Q:=by refine aB 79 rfl rfl rfl (aU (z.at_ ha nn) GV.1 (by rw[GV.2];trivial) (mz z ha nn ?_));rw[ht];refine aU z.K.W Vb.1 (by rw[Vb.2];trivial) (ET (m:=m+1) z ha hr (aU z.K.W Ec.1 (by rw[Ec.2];exact QA w z.n) (iZ (m:=m+2) z ⟨bl,λt ht=>nZ (aA ..) ⟨rfl,λns=>bW (b:=false) (by rw[U5 (sA ns Qu)];exact hu) ?_⟩⟩)));have f:=λq hq=>hs q hq;refine bf rfl (bf (f _ (.head _)) (bf (f _ (.tail _ (.head _))) (bf (f _ (.tail _ (.tail _ (.head _)))) (bf (f _ (.tail _ (.tail _ (.tail _ (.head _))))) (bf (f _ (.tail _ (.tail _ (.tail _ (.tail _ (.head _)))))) (bf (f _ (.tail _ (.tail _ (.tail _ (.tail _ (.tail _ (.head _))))))) ?_))))));exact hq ((z.iB (z.n.N+1) z.n.V z.n.cv (g5 (eu _)) (eu _)).new t _ ht) (((Le.refl z).iB _ _).new _ ht) rfl rfl
theorem Ax(z:Z w C [])(ha:z.A.ad i=some a)(hi:i=12\/i=13\/i=14)(hq:∀(z':Z w C []) e num fd,Le z z'->z'.A=z.A->z'.h e=none->Nw z e->z'.P e=some (.inst 40 (Km num a fd))->Q (.ref e) z'.P):Calls (m+4) 961 [.ref w.W,.ref a] z.P X Q:=by
 have F:gW i=none/\vO 8 i=some "Object"/\rJ 8 i=true:=by rcases hi with rfl|rfl|rfl<;>exact⟨rfl,rfl,rfl⟩
 refine pK z ha F.1 F.2.1 ⋯ ⋯ λz1 l1 A1 j=>aU z1.K.W R5.1 (by rw[R5.2];trivial) (Cg (m:=m+2) z1 (A1▸ha) F.2.2 λe he=>nA (aA ..) rfl λP4 fd b4 j j h4 j=>⟨rfl,?_⟩)
 have p:Pu z1.P P4:=λc o q=>
  have n:c≠e:=λr=>by rw[r,he] at q;cases q
  b4 c o n ((aD n).trans q)
 exact hq (z1.pu _ p) e _ fd (l1.pu _ p) A1 (z1.un he) ((Nw.none z1 he).of l1) h4
structure mh(z z':Z w C [])(e:Ad)(k:Kp)(num:Int)(fs:List (Nat × Va)):Prop where
 le:Le z z'
 A:z'.A=z.A
 nw:Ds z e k
 c:Cells z'.P z'.h e k fs [] [] [] []
 kn:k.kp=none
 Ul:num<=z'.n.N
 fr:∀ j b,z.A.ad j=some b->z.A.num j≠num
theorem mh.put{z z':Z w C []}{k:Kp}{num:Int}{fs:List (Nat × Va)}(r:mh z z' e k num fs)(fs':List (Nat × Va)):mh z (z'.put e (.inst 228 fs') r.c.ua) e k num fs':=⟨r.le.put _ r.nw.n0 _,r.A,r.nw,r.c.put fs',r.kn,r.Ul,r.fr⟩
theorem mh.of{z z1:Z w C []}{P':PH}{fd md cd xd ad:Ad}{num:Int}{fs:List (Nat × Va)}(l:Le z z1)(hA:z1.A=z.A)(hn:z1.n.N=z.n.N+1)(M:B7 z1.P P' e (k0 fd md cd xd ad))(h:P' e=some (.inst 228 fs))(en:num=z.n.N+1):mh z (z1.pu P' M.pu) e (k0 fd md cd xd ad) num fs:=⟨l.pu _ _,hA,M.nw.of l,M.cells rfl h,rfl,by rw[en];exact Int.le_of_eq hn.symm,λj b q r=>absurd (z.K.le j b q).1 (by rw[r,en];lia)⟩
theorem oE(z:Z w C [])(ha:z.A.ad 3=some a)(hb:z.A.ad 1=some b)(hq:∀(z':Z w C []) e k num,mh z z' e k num (m0 (.int num 0) (.ref a) .none (.bool true) (.ref b) .none k)->Q (.ref e) z'.P):Calls (m+4) 961 [.ref w.W,.ref a] z.P X Q:=pK z ha rfl (s:="Class") rfl ⋯ ⋯ λz1 l1 A1 n1=>(aU z1.K.W oJ.1 (by rw[oJ.2];trivial) (dF (m:=m+2) z1 (i:=1) rfl (A1▸hb) λe he=>aB 5 rfl rfl rfl (qt he λP2 fd md cd xd ad M hM=>⟨rfl,hq (z1.pu P2 M.pu) e (k0 fd md cd xd ad) (z.n.N+1) (.of l1 A1 n1 M hM rfl)⟩)))
theorem uI(z:Z w C [])(ha:z.A.ad 2=some a)(hq:∀(z':Z w C []) e k num,mh z z' e k num (m0 (.int num 0) (.ref a) .none (.bool false) .none .none k)->Q (.ref e) z'.P):Calls (m+4) 961 [.ref w.W,.ref a] z.P X Q:=pK z ha rfl (s:="Module") rfl ⋯ ⋯ λz1 l1 A1 n1=>λe he=>aB 4 rfl rfl rfl (qt he λP2 fd md cd xd ad M hM=>⟨rfl,hq (z1.pu P2 M.pu) e (k0 fd md cd xd ad) (z.n.N+1) (.of l1 A1 n1 M hM rfl)⟩)
end
end
noncomputable def Cont.new(C:Cont)(i:Nat)(o:Co):Cont:=⟨λj=>if j=i then true else C.ex j,C.lk,λj=>if j=i then o else C.c j⟩
section
variable{w:Wc}{C:Cont}{i:Nat}{e:Ad}{k:Kp}{o:Co}{num:Int}
noncomputable def Z.Hf(z:Z w C [])(hi:z.A.ad i=none)(h12:12<=i/\i<22)(hn:num<=z.n.N)(hj:∀ j b,z.A.ad j=some b->z.A.num j≠num)(W:jV (C.new i o))(hL:∀ j b,z.A.ad j=some b->aX (C.new i o) j=aX C j)
  (c:Cells z.P z.h e k (lT (z.A.set i e num) false i k) (o.mt.map λq=>(q.1,.ref (k.ea q.1))) (o.ct.map λq=>(q.1,.int q.2 0)) ((z.A.set i e num).dD o.mx) ((z.A.set i e num).dD o.ah))
  (he:∀ q∈o.mt,z.P (k.ea q.1)=some (.inst 256 (tK q.2 (k.er q.1)))/\z.h (k.ea q.1)=some (9,99)) (hk:k.kp=none) (hr:∀ j∈qx i::((par i).toList++(gW i).toList++o.mx++o.ah),∃ b,(z.A.set i e num).ad j=some b):Z w (C.new i o) [] where
 P:=z.P
 A:=z.A.set i e num
 h:=Ga z.h i e k
 n:=z.n
 kp:=λj=>if j=i then k else z.kp j
 K:=
  have K:=z.K;have ci:(C.new i o).c i=o:=ai rfl
  have hlk:C.lk i=false:=by
   cases q:C.lk i with
   | false=>rfl
   | true=>exact(K.lk i q).elim λb e=>by rw[hi] at e;cases e
  have K1:Core w (C.new i o) (i::[]) z.P (z.A.set i e num) z.h z.n z.kp:=K.open hi h12.2 (λc o t y y p=>p) K.gO (fu (Nat.add_le_add_left (zj (bT hi)) _) K.vC) K.w5
   (λj x q=>by rw[K.vB j x q];exact aj _ (aa λr=>absurd (rE q).1 (by lia)).symm) ⟨rfl,rfl,rfl⟩ (λj q=>aa q) hL rfl (λj y=>rfl) W hn hj
  have R:=c.Ss i;have l2:(C.new i o).lk i=false:=hlk
  K1.close (set_same ..) R.old (λx t q=>(R.st x t q).elim (K.rO x t) id)
   (λj hj=>hr j (by
    unfold refsOf at hj;rw[ci,l2] at hj
    simpa using hj))
   {at_:=by rw[l2];exact c.at_,fd:=c.fd,md:=by rw[ci];exact c.md,cd:=by rw[ci];exact c.cd,xd:=by rw[ci];exact c.xd,ad:=by rw[ci];exact c.ad
    ent:=λq hq=>by rw[ci] at hq;exact⟨(he q hq).1,R.old _ _ (he q hq).2⟩
    kp:=λkt kl v ln e=>by rw[hk] at e;cases e
    oa:=R.oa,of:=R.of,om:=R.om,oc:=R.oc,ox:=R.ox,od:=R.od }
theorem Le.Hf{w':Wc}{C':Cont}{S':List Nat}{z0:Z w' C' S'}{z:Z w C []}{z':Z w (C.new i o) []}(l:Le z0 z)(n:Ds z0 e k)(hi:z.A.ad i=none)(eP:z'.P=z.P)(eA:z'.A=z.A.set i e num)(eh:z'.h=Ga z.h i e k):Le z0 z':=
 ⟨λc o q r t=>⟨by rw[eP];exact(l.fr c o q r t).1,by have f:∀ x,Nw z0 x->c≠x:=λx nx e=>nx o (by rw[<-e];exact q) r (by rw[<-e];exact t);rw[eh,Er (f _ n.n0) (f _ n.n1) (f _ n.n2) (f _ n.n3) (f _ n.n4) (f _ n.n5)];exact(l.fr c o q r t).2⟩,λj b q=>by rw[eA];have y:=l.ad j b q;have x:=bT (a:=e) (num:=num) hi j b y.1;exact⟨x.1,x.2.trans y.2⟩⟩
noncomputable def dZ:Co:=⟨[],[],[],[]⟩
theorem Ef(h:C.c i=dZ):(C.new i dZ).c=C.c:=funext λj=>by
 show(if j=i then dZ else C.c j)=_;by_cases q:j=i
 ·rw[ai q,q,h]
 ·rw[aa q]
theorem jV.new(W:jV C)(h:C.c i=dZ):jV (C.new i dZ):=by have e:=Ef h;exact⟨by rw[e];exact W.base,by rw[e];exact W.BS,by rw[e];exact W.us,by rw[e];exact W.u5,by rw[e];exact W.nd,by rw[e];exact W.nc⟩
noncomputable def mh.add{z z':Z w C []}{fs:List (Nat × Va)}(r:mh z z' e k num fs)(hi:z.A.ad i=none)(h12:12<=i/\i<22)(h:C.c i=dZ)(hf:fs=lT (z.A.set i e num) false i k)(hr:∀ j∈qx i::((par i).toList++(gW i).toList),∃ b,(z.A.set i e num).ad j=some b):Z w (C.new i dZ) []:=z'.Hf (i:=i) (num:=num) (k:=k) (e:=e) (o:=dZ) (by rw[r.A];exact hi) h12 r.Ul (by rw[r.A];exact r.fr) (z'.K.wf.new h) (λj b y=>zc (Ef h) 12 j) (r.c.cast (by rw[r.A];exact hf) rfl rfl rfl rfl) (λq hq=>by cases hq) r.kn (λj hj=>by rw[r.A];exact hr j (by simpa [dZ] using hj))
theorem mh.Um{z z':Z w C []}{fs:List (Nat × Va)}(r:mh z z' e k num fs)(hi:z.A.ad i=none)(h12:12<=i/\i<22)(h:C.c i=dZ)(hf:fs=lT (z.A.set i e num) false i k)(hr:∀ j∈qx i::((par i).toList++(gW i).toList),∃ b,(z.A.set i e num).ad j=some b):Le z (r.add hi h12 h hf hr):=r.le.Hf (num:=num) r.nw (by rw[r.A];exact hi) rfl rfl rfl
end
section
variable{m:Nat}{X:XP}{Q:VQ}{w:Wc}{C:Cont}{i j p:Nat}{b c e l:Ad}
theorem yD(z:Z w C [])(h3:z.A.ad 3=some c)(h1:z.A.ad 1=some b)(ha:z.A.ad p=some a)(hp:gM p=true/\gW p=none/\p≠3)(hq:∀(z':Z w C []) e k num,mh z z' e k num (eN 8 (.ref a) (eN 7 (.bool true) (m0 (.int num 0) (.ref c) .none (.bool true) (.ref b) .none k)))->Q (.ref e) z'.P):Calls (m+5) 436 [.ref w.W,.ref a] z.P X Q:=by refine aB 22 rfl rfl rfl ⟨rfl,bS (z.at_ ha nn) rfl (bt xe (aG (v:=.bool true) (z.at_ ha nn) rfl (by show some (Value.bool (gM p))=_;rw[hp.1]) rfl (aU (z.at_ ha nn) GV.1 (by rw[GV.2];trivial) (mz z ha nn ?_))))⟩;rw[hp.2.1];refine aU z.K.W oJ.1 (by rw[oJ.2];trivial) (dF (m:=m+3) (i:=3) z rfl h3 (jA (m:=m+2) z ha h3 nn nn (bf (av hp.2.2) (aU z.K.W NN.1 (by rw[NN.2];exact MZ w z.n) (aU z.K.W oJ.1 (by rw[oJ.2];trivial) (dF (m:=m+3) (i:=3) z rfl h3 (oE (m:=m) z h3 h1 λz1 e k num r=>?_)))))));have r1:=r.put (eN 7 (.bool true) (m0 (.int num 0) (.ref c) .none (.bool true) (.ref b) .none k));have r2:=r1.put (eN 8 (.ref a) (eN 7 (.bool true) (m0 (.int num 0) (.ref c) .none (.bool true) (.ref b) .none k)));exact bQ r.c.at_ rfl (dB rfl) (bQ r1.c.at_ rfl (dB rfl) (hq _ e k num r2))
theorem wK(z:Z w C [])(h2:z.A.ad 2=some c)(hq:∀(z':Z w C []) e k num,mh z z' e k num (m0 (.int num 0) (.ref c) .none (.bool false) .none .none k)->Q (.ref e) z'.P):Calls (m+5) 443 [.ref w.W] z.P X Q:=aB 23 rfl rfl rfl (aU z.K.W NN.1 (by rw[NN.2];exact MZ w z.n) (aU z.K.W oJ.1 (by rw[oJ.2];trivial) (dF (m:=m+3) (i:=2) z rfl h2 (uI (m:=m) z h2 hq))))
end
section
theorem RW:bO 1055 10=some 877/\bL 10=none:=⋯
noncomputable def Cont.link(C:Cont)(i:Nat):Cont:={ C with lk:=λj=>if j=i then true else C.lk j }
noncomputable def cW:Nat->Cont->Nat->Cont
 | 0,C,_=>C
 | k+1,C,i=>if C.lk i then C else((match par i with
  | some p=>cW k C p
  | none=>C).new ((cV i).getD 0) dZ).link i
theorem iR{k:Nat}{C:Cont}{i:Nat}:cW (k+1) C i=if C.lk i then C else((match par i with
  | some p=>cW k C p
  | none=>C).new ((cV i).getD 0) dZ).link i:=rfl
structure jU(i o:Nat):Prop where
 ic:gM i=true
 at_:gW i=none
 ow:cV i=some o
 lo:12<=o/\o<22
 io:gM o=true
 po:par o=(match par i with
  | some p=>cV p
  | none=>some 3)
 ao:gW o=some i
 nm:qO o=none
 nt:nat o=(nat i).map λs=>s++(".":Str)
 nl:∀ s,nat i=some s->s.length<big
 up:∀ p,par i=some p->∃ q,cV p=some q
theorem jU.of{i o:Nat}(h:cV i=some o):jU i o:=
 have m:(i,o)∈([(0,17),(1,18),(12,19),(13,20),(14,21)]:List (Nat × Nat)):=lookup_mem h
 have f:=(by decide +kernel:∀ q∈([(0,17),(1,18),(12,19),(13,20),(14,21)]:List (Nat × Nat)),gM q.1=true/\gW q.1=none/\(12<=q.2/\q.2<22)/\gM q.2=true/\par q.2=(match par q.1 with
  | some p=>cV p
  | none=>some 3)/\gW q.2=some q.1/\qO q.2=none/\nat q.2=(nat q.1).map (λs=>s++(".":Str))/\((nat q.1).all λs=>decide (s.length<big))=true/\((par q.1).all λp=>(cV p).isSome)=true) _ m
 ⟨f.1,f.2.1,h,f.2.2.1,f.2.2.2.1,f.2.2.2.2.1,f.2.2.2.2.2.1,f.2.2.2.2.2.2.1,f.2.2.2.2.2.2.2.1,λs e=>by have w:=f.2.2.2.2.2.2.2.2.1;rw[e] at w;exact of_decide_eq_true w,λp e=>by have w:=f.2.2.2.2.2.2.2.2.2;rw[e] at w;exact cz w⟩
def eO(C:Cont):Prop:=∀ i o,cV i=some o->C.lk i=false->C.ex o=false/\C.c o=dZ
theorem eO.step{C:Cont}{i o:Nat}(V:eO C)(h:cV i=some o):eO ((C.new o dZ).link i):=λj q hj hl=>by
 have n:j≠i:=λe=>by subst e;have:(if j=j then true else C.lk j)=false:=hl;rw[ai rfl] at this;cases this
 have hl':C.lk j=false:=(aa n).symm.trans hl;have nq:q≠o:=λe=>n (by have h1:=(jU.of hj).ao;rw[e,(jU.of h).ao] at h1;exact(kr h1).symm);exact⟨(aa nq).trans (V j q hj hl').1,(aa nq).trans (V j q hj hl').2⟩
section
variable{w:Wc}{C:Cont}{i o:Nat}{b:Ad}
noncomputable def Z.link(z:Z w C [])(ha:z.A.ad i=some a)(hl:C.lk i=false)(ho:cV i=some o)(hb:z.A.ad o=some b)(P':PH)(hP:∀ c,c≠a->P' c=z.P c)(hPa:P' a=some (.inst 228 (lT z.A true i (z.kp i)))):Z w (C.link i) [] where
 P:=P'
 A:=z.A
 h:=z.h
 n:=z.n
 kp:=λj=>if j=i then z.kp i else z.kp j
 K:=
  have K:=z.K;have M:=K.mod i a ha nn;have li:(C.link i).lk i=true:=ai rfl;have na:∀{c t p},z.h c=some t->t≠(0,i)->z.P c=some p->P' c=some p:=λq r p=>(hP _ λx=>r (by subst x;exact kr (q.symm.trans M.oa))).trans p
  K.chg ha (λc p t q r s e y=>⟨na q (λe=>r (by rw[e])) e,q⟩) (na K.oW eY K.W) K.oW
   (λc t q=>by
    by_cases x:c=a
    ·exact⟨_,by rw[x];exact hPa,rfl⟩
    ·rw[hP c x];exact K.rO c t q)
   (λj q=>⟨rfl,aa q⟩) rfl ⟨K.wf.base,K.wf.BS,K.wf.us,K.wf.u5,K.wf.nd,K.wf.nc⟩ (eu _) (eu _) rfl (λj y y=>zc rfl 12 j)
   (λj hj=>by
    unfold refsOf at hj;rw[li,ho] at hj;rcases ku hj with h|h
    ·exact K.ref i a ha nn j (by rw[h];exact tU ..)
    ·rcases cy h with h|h
     ·exact K.ref i a ha nn j (jd _ (fh _ h))
     ·rw[cu h];exact⟨b,hb⟩)
   (λj hj=>by
    by_cases q:j=i
    ·exact⟨a,by rw[q];exact ha⟩
    ·exact K.lk j ((aa q).symm.trans hj))
   {at_:=by rw[li];exact hPa,fd:=na M.of eY M.fd,md:=na M.om eY M.md,cd:=na M.oc eY M.cd,xd:=na M.ox eY M.xd,ad:=na M.od eY M.ad
    ent:=λq hq=>⟨na (M.ent q hq).2 eY (M.ent q hq).1,(M.ent q hq).2⟩
    kp:=λkt kl v ln e=>
     have k:=M.kp kt kl v ln e
     ⟨⟨na k.1.2.2.1 eY k.1.1,na k.1.2.2.2 eY k.1.2.1,k.1.2.2⟩,k.2.1,λe=>(k.2.2.1 e).trans (zc rfl 12 i).symm,k.2.2.2⟩
    oa:=M.oa,of:=M.of,om:=M.om,oc:=M.oc,ox:=M.ox,od:=M.od }
theorem Le.link{w':Wc}{C':Cont}{S':List Nat}{z0:Z w' C' S'}{z:Z w C []}(l:Le z0 z)(ha:z.A.ad i=some a)(hl:C.lk i=false)(ho:cV i=some o)(hb:z.A.ad o=some b)(P':PH)(hP:∀ c,c≠a->P' c=z.P c)(hPa:P' a=some (.inst 228 (lT z.A true i (z.kp i)))):Le z0 (z.link ha hl ho hb P' hP hPa):=⟨λc o q r k=>
 have y:=l.fr c o q r k
 ⟨(hP c λx=>by
  rw[<-y.2,x,(z.K.mod i a ha nn).oa] at k;rcases k with k|⟨t,k⟩<;>cases k
  exact absurd (z.K.le _ a ha).2 ()).trans y.1,y.2⟩,l.ad⟩
end
section
variable{m:Nat}{X:XP}{Q:VQ}{w:Wc}{C:Cont}{i j p:Nat}{b c e l:Ad}
theorem yE(z:Z w C [])(h3:z.A.ad 3=some c){pa v:Ad}(hq:∀(z':Z w C []) e k num,mh z z' e k num (eN 14 (.ref v) (m0 (.int num 0) (.ref c) .none (.bool true) (.ref pa) .none k))->Q (.ref e) z'.P):Calls (m+4) 877 [.ref w.W,.none,.bool true,.ref pa,.none,.ref v] z.P X Q:=by refine aB 72 rfl rfl rfl (aU z.K.W oJ.1 (by rw[oJ.2];trivial) (dF (m:=m+2) (i:=3) z rfl h3 ⟨rfl,rfl,aU z.K.W Ec.1 (by rw[Ec.2];exact QA w z.n) (iZ (m:=m+2) z λe he=>aB 6 rfl rfl rfl (qt he λP2 fd md cd xd ad M hM=>⟨rfl,?_⟩))⟩));let z1:=z.iB (z.n.N+1) z.n.V z.n.cv (g5 (eu _)) (eu _);have r:mh z (z1.pu P2 M.pu) e (k0 fd md cd xd ad) (z.n.N+1) _:=mh.of (z1:=z1) ((Le.refl z).iB _ _) rfl rfl M hM rfl;exact bQ hM rfl (dB rfl) (hq _ e _ _ (r.put (eN 14 (.ref v) (m0 (.int (z.n.N+1) 0) (.ref c) .none (.bool true) (.ref pa) .none (k0 fd md cd xd ad)))))
end
end
theorem Bo(k:Nat):∀(C:Cont) (p j:Nat),rk p<rk j->(cW k C p).lk j=C.lk j:=by
 induction k with
 | zero=>exactλy y y y=>rfl
 | succ k ih=>
  intro C p j h;rw[iR];by_cases l:C.lk p=true
  ·rw[ai l]
  ·rw[aa l]
   show(if j=p then true else(Cont.new _ _ _).lk j)=_;rw[aa λq=>absurd h (by rw[q];exact ig _)];cases q:par p with
   | none=>rfl
   | some p'=>exact ih C p' j (gy (iJ q).1 h)
section
variable{m:Nat}{w:Wc}
noncomputable abbrev UU:List Bool:=(fF 9)
theorem JP{A:lE}{j:Nat}{p:Ad}(h:A.rf (some j)=.ref p):∃ b,A.ad j=some b:=by
 cases q:A.ad j with
 | some b=>exact⟨b,rfl⟩
 | none=>unfold lE.rf at h;rw[jv,q] at h;cases h
theorem Bs{X:XP}{Q:VQ}{C0 C:Cont}{i o:Nat}{a c pa:Ad}(z0:Z w C0 [])(z:Z w C [])(l:Le z0 z)(F:jU i o)(V:eO C)(ha:z.A.ad i=some a)(h3:z.A.ad 3=some c)(hl:C.lk i=false)(hp:z.A.rf (par o)=.ref pa)
  (hq:∀(z':Z w ((C.new o dZ).link i) []) b,Le z0 z'->z'.A.ad o=some b->(z'.kp o).kp=none->Q (.ref b) z'.P):wpS (m+6) UU (bV 5 lC) (some (.ref w.W)::some (.ref a)::some (.ref pa)::nN 6) z.P X (λu P'=>Q .none P') Q:=by
 have no:z.A.ad o=none:=by
  have:=z.K.ex o F.lo.1;rw[(V i o F.ow hl).1] at this;cases q:z.A.ad o with
  | none=>rfl
  | some b=>rw[q] at this;cases this
 refine aU z.K.W RW.1 (by rw[RW.2];trivial) (yE (m:=m+2) z h3 λz2 e k num r=>?_);have ha2:z2.A.ad i=some a:=by rw[r.A];exact ha
 have M2:=z2.at_ ha2 nn;have o3:qx o=3:=by unfold qx;rw[F.io];rfl
 have es:(z.A.set o e num).rf (par o)=.ref pa:=(pJ (bT no) λj hj=>JP (Option.mem_toList.mp hj▸hp)).trans hp
 have fin:∀(na:Va) (P3:PH) (z3:Z w C []),mh z z3 e k num [(0,.int num 0),(1,.ref c),(2,.ref k.fd),(3,.none),(4,.bool false),(5,.none),(6,.none),(7,.bool true),(8,.ref pa),(9,.none),(10,.ref k.md),(11,.ref k.cd),(12,.ref k.xd),(13,.ref k.ad),(14,.ref a),(15,na),(16,.none)]->na=jG (nat o)->z3.kp i=z2.kp i->(∀ y,y≠a->P3 y=z3.P y)->P3 a=some (.inst 228 (eN 3 (.ref e) (lT z2.A (C.lk i) i (z2.kp i))))->z3.n=z2.n->wpS (m+6) UU (bV 7 lC) (some (.ref w.W)::some (.ref a)::some (.ref pa)::nN 6) P3 X (λu P'=>Q .none P') Q:=λna P3 z3 r3 hna hk3 hP3 hA3 n3=>by
  have hr:∀ j∈qx o::((par o).toList++(gW o).toList),∃ b,(z.A.set o e num).ad j=some b:=λj hj=>by
   rcases ku hj with h|h
   ·rw[h,o3];exact⟨c,(bT no _ _ h3).1⟩
   ·rcases cy h with h|h
    ·exact JP (Option.mem_toList.mp h▸es)
    ·rw[F.ao] at h;rw[cu h];exact⟨a,(bT no _ _ ha).1⟩
  have hf:=vv (A:=z.A.set o e num) (lk:=false) (i:=o) (k:=k) (num:=.int num 0) (ow:=.ref c) (nm:=.none) (ic:=.bool true) (pa:=.ref pa) (at':=.ref a) (na:=na) (kv:=.none) (by rw[show(z.A.set o e num).num o=num from ai rfl]) (by rw[o3];exact(aQ (bT no _ _ h3).1).symm) rfl (by rw[F.nm];rfl) (by rw[F.io]) es.symm (by rw[F.ao];exact(aQ (bT no _ _ ha).1).symm) hna (by unfold Kp.kv;rw[r3.kn];rfl);let z4:=r3.add no F.lo (V i o F.ow hl).2 hf hr;have l4:Le z z4:=r3.Um no F.lo (V i o F.ow hl).2 hf hr;have a4:z4.A.ad i=some a:=(l4.ad i a ha).1;have b4:z4.A.ad o=some e:=by show(z3.A.set o e num).ad o=_;exact set_same ..
  have k4:z4.kp i=z2.kp i:=by show(if i=o then k else z3.kp i)=_;rw[aa λq=>by rw[q,no] at ha;cases ha];exact hk3
  have e4:eN 3 (.ref e) (lT z2.A (C.lk i) i (z2.kp i))=lT z4.A true i (z4.kp i):=by have x1:lT z4.A (C.lk i) i (z2.kp i)=lT z2.A (C.lk i) i (z2.kp i):=I8 (C:=C) (by rw[r.A];exact l4.ad) ha2 (λj hj=>by rw[r.A];exact z.K.ref i a ha nn j hj) rfl;rw[<-x1,k4,hl];show eN 3 _ _=lT z4.A true i (z2.kp i);unfold lT;show _=_::_::_::(3,z4.A.rf (cV i))::_;rw[F.ow,aQ b4];rfl
  let z5:=z4.link a4 hl F.ow b4 P3 hP3 (by rw[hA3,e4]);refine fQ (m:=m+5) z5 ?_;let z6:=z5.iB z5.n.N (z5.n.V+1) z5.n.cv (eu _) (g5 (eu _));have l6:Le z0 z6:=((l.trans l4).link a4 hl F.ow b4 P3 hP3 (by rw[hA3,e4])).iB _ _;exact aG (v:=.ref e) (z6.at_ (i:=i) a4 nn) rfl (by show some (Pg z4.A i (if i=i then true else C.lk i))=_;rw[ai rfl];show some (z4.A.rf (cV i))=_;rw[F.ow,aQ b4]) rfl (hq z6 e l6 b4 (by show(if o=i then z4.kp i else(if o=o then k else z3.kp o)).kp=none;rw[aa (λq=>(by rw[<-q,no] at ha;cases ha)),ai rfl];exact r3.kn))
 have nea:e≠a:=λq=>by have:=r.c.ua;rw[q,(z2.K.mod i a ha2 nn).oa] at this;cases this
 refine bQ M2 rfl (dB rfl) ⟨rfl,bS (aA ..) rfl (bt xe (aG (aA ..) rfl rfl (tY _) ⟨mP _,?_⟩))⟩;cases hn:nat i with
 | none=>exact fin .none _ z2 r (by rw[F.nt,hn];rfl) rfl (λy hy=>aD hy) (aA ..) rfl
 | some s=>
  refine aU (aA ..) GV.1 (by rw[GV.2];trivial) (aB 7 rfl rfl rfl (aG (v:=.none) (aA ..) rfl (by show some (z2.A.rf (gW i))=_;rw[F.at_];rfl) rfl ⟨rfl,?_⟩));refine aG (v:=.str s 0) (aA ..) rfl (by show some (jG (nat i))=_;rw[hn];rfl) rfl ⟨⟨F.nl s hn,bl⟩,aG (v:=.ref e) (aA ..) rfl rfl rfl (bQ ((aD nea).trans r.c.at_) rfl (dB rfl) ?_)⟩;refine fin (.str (s++".") 0) _ _ (r.put _) (by rw[F.nt,hn];rfl) rfl (λy hy=>?_) ((aD (gz nea)).trans (aA ..)) rfl;show upd (upd z2.P a _) e _ y=upd z2.P e _ y;by_cases q:y=e
  ·rw[q,aA,aA];rfl
  ·rw[aD q,aD q,aD hy]
end
theorem rI(k:Nat):∀(C:Cont) (p:Nat),eO C->(∃ q,cV p=some q)->eO (cW k C p):=by
 induction k with
 | zero=>exactλj j V j=>V
 | succ k ih=>
  intro C p V hp;obtain⟨o,ho⟩:=hp;have F:=jU.of ho;rw[iR];by_cases l:C.lk p=true
  ·rw[ai l];exact V
  ·rw[aa l,ho]
   refine eO.step ?_ ho;cases q:par p with
   | none=>exact V
   | some p'=>exact ih C p' V (F.up p' q)
section
variable{m:Nat}{w:Wc}
theorem p8:∀(k i:Nat) {C:Cont} (z:Z w C []) {a c o:Nat} {X:XP} {Q:VQ},rk i<k->cV i=some o->z.A.ad i=some a->z.A.ad 3=some c->eO C->sF C->(∀(z':Z w (cW k C i) []) b,Le z z'->z'.A.ad o=some b->(C.lk i=false->(z'.kp o).kp=none)->Q (.ref b) z'.P)->Calls (m+k+7) 544 [.ref w.W,.ref a] z.P X Q:=by
 intro k;induction k with
 | zero=>exactλi j j j j j j j h=>absurd h (j0 _)
 | succ k ih=>
  intro i C z a c o X Q hk ho ha h3 V L hq;have F:=jU.of ho;have M:=z.at_ ha nn;refine aB 35 rfl rfl rfl ⟨rfl,pn M rfl ⟨rfl,bS M rfl (bt Ke ?_)⟩⟩;by_cases hl:C.lk i=true
  ·obtain⟨b,hb,hg⟩:=ze z ha hl (L i hl)
   rw[ho] at hb;have e:cW (k+1) C i=C:=by rw[iR];rw[ai hl]
   rw[e] at hq;exact aG (v:=.ref b) M rfl hg rfl ⟨rfl,aG (v:=.ref b) M rfl hg rfl (hq z b (.refl z) hb λx=>by rw[hl] at x;cases x)⟩
  ·have e:cW (k+1) C i=((match par i with
    | some p=>cW k C p
    | none=>C).new o dZ).link i:=by rw[iR,aa hl,ho];rfl
   rw[e] at hq;have hl:C.lk i=false:=by simpa using hl
   have hc:eH 1 (lT z.A (C.lk i) i (z.kp i))=some (.ref c):=by show some (z.A.rf (some (qx i)))=_;unfold qx;rw[F.ic];exact aj some (aQ h3)
   refine aG (v:=.none) M rfl (zl z hl) rfl ⟨rfl,aU z.K.W Tp.1 (by rw[Tp.2];trivial) (uw (m:=m+k+6) M rfl rfl hc rfl ⟨rfl,bS M rfl (bt xe (aG (v:=.bool true) M rfl (by show some (Value.bool (gM i))=_;rw[F.ic]) rfl (aG M rfl rfl (yh ..) ⟨JQ ..,?_⟩)))⟩)⟩;cases hp:par i with
   | none=>rw[hp] at hq;exact Bs (m:=m+k+1) z z (.refl z) F V ha h3 hl (by rw[F.po,hp];exact aQ h3) λz' b l h k=>hq z' b l h λj=>k
   | some p=>rw[hp] at hq;obtain⟨q,hpq⟩:=F.up p hp;obtain⟨b,hb⟩:=z.K.ref i a ha nn p (iO (mem_some hp));rw[aQ hb];refine aG (v:=.ref b) M rfl (by show some (z.A.rf (par i))=_;rw[hp,aQ hb]) rfl (ih p z (gr (iJ hp).1 (jq hk)) hpq hb h3 V L λz1 d l1 hd j=>?_);exact Bs (m:=m+k+1) z z1 l1 F (rI k C p V ⟨q,hpq⟩) (l1.ad i a ha).1 (l1.ad 3 c h3).1 ((Bo k C p i (iJ hp).1).trans hl) (by rw[F.po,hp];show z1.A.rf (cV p)=_;rw[hpq,aQ hd]) λz' b l h k=>hq z' b l h λj=>k
end
section
section
variable{w:Wc}{C:Cont}{S:List Nat}{A:lE}{h:eT}{n:Nm}{kp:Nat->Kp}{i:Nat}
noncomputable def QI(mt:List (Str × Ent))(ea:Str->Ad):List (Str × Va):=mt.map λq=>(q.1,.ref (ea q.1))
theorem Core.vN(K:Core w C S P A h n kp)(ha:A.ad i=some a)(hs:i∉S)(t:Nat × Nat):Core w C S (upd P (kp i).md (.dict t (QI (C.c i).mt (kp i).ea))) A h n (λj=>if j=i then { kp i with tg:=t } else kp j):=
 have M:=K.mod i a ha hs;have lt:=(K.le i a ha).2;have na:∀{c t' p},h c=some t'->t'≠(1,i)->P c=some p->upd P (kp i).md (.dict t (QI (C.c i).mt (kp i).ea)) c=some p:=λq r p=>(aD λx=>r (by subst x;exact kr (q.symm.trans M.om))).trans p
 {W:=na K.oW eY K.W,gO:=na K.om eY K.gO,nd:=na K.on eY K.nd,pd:=na K.op eY K.pd,vC:=K.vC,w5:=K.w5,vB:=K.vB
  mod:=λj b e s=>by
   by_cases q:j=i
   ·subst q
    cases ha.symm.trans e;rw[ai rfl];exact {
        at_:=na M.oa eY M.at_,fd:=na M.of eY M.fd,md:=aA ..,cd:=na M.oc eY M.cd,xd:=na M.ox eY M.xd,ad:=na M.od eY M.ad
        ent:=λq hq=>⟨na (M.ent q hq).2 eY (M.ent q hq).1,(M.ent q hq).2⟩
        kp:=λkt kl v ln e=>have k:=M.kp kt kl v ln e;⟨⟨na k.1.2.2.1 eY k.1.1,na k.1.2.2.2 eY k.1.2.1,k.1.2.2⟩,k.2⟩
        oa:=M.oa,of:=M.of,om:=M.om,oc:=M.oc,ox:=M.ox,od:=M.od }
   ·rw[aa q]
    refine(K.mod j b e s).move e (K.ref j b e s) (λc o t x y p l=>⟨na x (λz=>?_) p,x⟩) (λu u x=>⟨x,rfl⟩) rfl rfl (eu _) λu=>rfl;subst z;rcases y with y|y
    ·exact q y.symm
    ·exact absurd lt (by rw[show i=99 from y];decide)
  ref:=K.ref,inj:=K.inj,le:=K.le,lk:=K.lk,ex:=K.ex,wf:=K.wf,oW:=K.oW,om:=K.om,on:=K.on,op:=K.op,rO:=λc t q=>stand rfl (K.rO c t q) }
noncomputable def Z.vN(z:Z w C S)(ha:z.A.ad i=some a)(hs:i∉S)(t:Nat × Nat):Z w C S:=⟨_,z.A,z.h,z.n,_,z.K.vN ha hs t⟩
theorem Le.vN{w':Wc}{C':Cont}{S':List Nat}{z0:Z w' C' S'}{z:Z w C S}(l:Le z0 z)(ha:z.A.ad i=some a)(hs:i∉S)(t:Nat × Nat):Le z0 (z.vN ha hs t):=⟨λc o q r k=>
 have y:=l.fr c o q r k
 ⟨(aD λx=>by
  rw[<-y.2,x,(z.K.mod i a ha hs).om] at k;rcases k with k|⟨t,k⟩<;>cases k
  exact absurd (z.K.le _ a ha).2 ()).trans y.1,y.2⟩,l.ad⟩
noncomputable def Z.Ti(z:Z w C S){e:Ad}(u:z.h e=none)(P':PH)(b:Bt z.P P' e):Z w C S:=⟨P',z.A,z.h,z.n,z.kp,z.K.keep λc o j q p j=>b c o (λx=>by rw[x,u] at q;cases q) p⟩
theorem Le.Ti{w':Wc}{C':Cont}{S':List Nat}{z0:Z w' C' S'}{z:Z w C S}(l:Le z0 z){e:Ad}(n:Nw z0 e)(u:z.h e=none)(P':PH)(b:Bt z.P P' e):Le z0 (z.Ti u P' b):=⟨λc o q r k=>have y:=l.fr c o q r k;⟨b c o (λx=>by subst x;exact n o q r k) y.1,y.2⟩,l.ad⟩
end
theorem Fz{x:Str}{d:Ent}:∀{mt:List (Str × Ent)},(x,d)∈mt->∃ d',mt.lookup x=some d':=by
 intro mt;induction mt with
 | nil=>exactλh=>absurd h gk
 | cons q mt ih=>
  intro h;rw[f6];cases e:x==q.1 with
  | true=>exact⟨_,rfl⟩
  | false=>refine ih ((ku h).resolve_left λz=>?_);rw[<-z,bg] at e;cases e
theorem JM{α:Type}{x:Str}{d:α}:∀{l:List (Str × α)},x∉l.map (·.1)->cR x d l=l++[(x,d)]:=by
 intro rr;induction rr with
 | nil=>exactλj=>rfl
 | cons e r ih=>intro h;rw[zA];rw[aa λq=>h (by rw[<-q];exact .head _),ih λq=>h (.tail _ q)];rfl
section
variable{m:Nat}{X:XP}{Q:VQ}{w:Wc}{C:Cont}{S:List Nat}{i:Nat}{e mde:Ad}{ep:Nat}{fs:List (Nat × Va)}{N:NP}{R:VQ}
structure Cp(P0 P':PH)(mde:Ad)(pre:List (Str × Ent))(ea:Str->Ad)(er:Str->yt)(tg:Nat × Nat):Prop where
 bt:Bt P0 P' mde
 md:P' mde=some (.dict tg (QI pre ea))
 en:∀ q∈pre,P' (ea q.1)=some (.inst 256 (tK q.2 (er q.1)))/\P0 (ea q.1)=none
theorem xO(z:Z w C S)(ha:z.A.ad i=some a)(hs:i∉S)(ht:(z.kp i).tg=(ep,1))(he:z.P e=some (.inst 228 fs))(hf:eH 10 fs=some (.ref mde)){o0:PO}(hm:z.P mde=some o0)(nm:∀{c o},z.h c≠none->z.P c=some o->c≠mde)(nme:e≠mde){gm:Ad}{gv:List (Str × Va)}(hg:z.P gm=some (.dict (ep,1) gv))(hgo:z.h gm≠none):
  ∀(rest pre:List (Str × Ent)) (P':PH) (ea:Str->Ad) (er:Str->yt) (tg:Nat × Nat) (v2 v3:Op Va),(C.c i).mt=pre++rest->Cp z.P P' mde pre ea er tg->(∀ P' ea er tg v2 v3,Cp z.P P' mde (C.c i).mt ea er tg->N [some (.ref a),some (.ref e),v2,v3,none,none] P')->cM (λv l P' k=>wpS (m+4) (fF 6) (match kC with|.seq _ (.seq _ (.seq (.loop _ _ b) _))=>b|_=>.skip) (l.set 2 (some v)) (kD (fF 6) 2 P') X k R) (λP'=>P' gm=some (.dict (ep,1) gv)) (rest.map λq=>.str q.1 0) [some (.ref a),some (.ref e),v2,v3,none,none] P' N
 | [],pre,P',ea,er,tg,v2,v3,hp,c,h=>by rw[jk] at hp;exact h P' ea er tg v2 v3 (by rw[hp];exact c)
 | q::rest,pre,P',ea,er,tg,v2,v3,hp,c,h=>by
  have M:=z.K.mod i a ha hs;have mem:q∈(C.c i).mt:=by rw[hp];exact fq _ (.head _)
  have nd:=(z.K.wf.nd i).1;have ow:∀{c' t o},z.h c'=some t->z.P c'=some o->P' c'=some o:=λq p=>c.bt _ _ (nm (by rw[q];intro x;cases x) p) p;have pa:=ow M.oa M.at_;have pm:=ow M.om M.md;rw[ht] at pm;have pe:=ow (M.ent q mem).2 (M.ent q mem).1;obtain⟨d',hd⟩:=Fz mem;have nq:q.1∉pre.map (·.1)/\(pre.map (·.1)).Nodup:=by rw[hp,i8,List.nodup_append] at nd;exact⟨λx=>nd.2.2 _ x _ (.head _) rfl,nd.1⟩
  refine aG (v:=.ref (z.kp i).md) pa rfl rfl rfl λj=>aO (v:=.ref ((z.kp i).ea q.1)) pm (by rw[CO,hd];rfl) (aU pe LO.1 (by rw[LO.2];trivial) (aG (v:=.str ((z.kp i).er q.1).nm 0) pe rfl rfl rfl (K6 (m:=m+1) pe λP2 f (p2:Pu P' P2) (hf2:P' f=none) h2=>?_)));have pe2:P2 e=some (.inst 228 fs):=p2 _ _ (c.bt _ _ nme he);have pl:(QI pre ea).length<big:=by have h1:=z.K.wf.Jd i;rw[hp,gu] at h1;show(pre.map _).length<_;rw[ef];unfold big;lia
  refine aG (v:=.ref mde) pe2 ⋯ hf rfl (cX (p2 _ _ c.md) pl ?_);have bt2:Bt z.P (upd P2 mde (.dict (0,0) (cU q.1 (.ref f) (QI pre ea)))) mde:=(c.bt.trans λc' o' j x=>p2 c' o' x).put _;have fm:f≠mde:=λx=>by rw[x,c.md] at hf2;cases hf2
  have zf:z.P f=none:=c.bt.fresh hm (by rw[c.md];intro x;cases x) hf2;have ne:∀{c' o'},P' c'=some (.inst 256 o')->c'≠mde:=λp x=>by rw[x,c.md] at p;cases p
  refine⟨bt2 _ _ (nm hgo hg) hg,xO z ha hs ht he hf hm nm nme hg hgo rest (pre++[q]) _ (λy=>if y=q.1 then f else ea y) (λy=>if y=q.1 then⟨((z.kp i).er q.1).nm,e,((z.kp i).er q.1).nt⟩ else er y) (0,0) _ _ (by rw[hp,i0];rfl) ⟨bt2,(aA ..).trans ?_,λy hy=>?_⟩ h⟩
  ·have:=qA (x:=q.1) (d:=q.2) (v:=.ref f) (g:=λq=>.ref (ea q.1)) (g':=λy=>.ref (if y.1=q.1 then f else ea y.1)) nq.2 (aj Value.ref (ai rfl)) λy j n=>aj Value.ref (aa n)
   rw[JM nq.1] at this;exact aj (λv=>some (PO.dict (0,0) v)) this
  ·rcases cy hy with hy|hy
   ·have n:y.1≠q.1:=λx=>nq.1 (List.mem_map.mpr ⟨y,hy,x⟩)
    rw[aa n,aa n];exact⟨(aD (ne (c.en y hy).1)).trans (p2 _ _ (c.en y hy).1),(c.en y hy).2⟩
   ·rw[cu hy,ai rfl,ai rfl]
    exact⟨(aD fm).trans h2,zf⟩
end
end
section
section
variable{w:Wc}{C:Cont}{S:List Nat}{A:lE}{h h':eT}{n:Nm}{kp:Nat->Kp}{i:Nat}{x:Ad}{k:Kp}{fs:List (Nat × Va)}{ml ml' cl cl':List (Str × Va)}{xl al:List Va}
theorem Core.mark(K:Core w C S P A h n kp)(hh:∀ c t,h c=some t->h' c=some t)(hs:∀ c t,h' c=some t->∃ o,P c=some o/\o.bR=false):Core w C S P A h' n kp:=
 {W:=K.W,gO:=K.gO,nd:=K.nd,pd:=K.pd,vC:=K.vC,w5:=K.w5,vB:=K.vB,mod:=λj b e s=>(K.mod j b e s).move e (K.ref j b e s) (λc o t x q p q=>⟨p,hh c t x⟩) (λq q x=>⟨x,rfl⟩) rfl rfl (eu _) λq=>rfl
  ref:=K.ref,inj:=K.inj,le:=K.le,lk:=K.lk,ex:=K.ex,wf:=K.wf,oW:=hh _ _ K.oW,om:=hh _ _ K.om,on:=hh _ _ K.on,op:=hh _ _ K.op,rO:=hs }
noncomputable def I6(h:eT)(L:List Ad):eT:=λc=>if c∈L then some (9,99) else h c
noncomputable def Z.Eb(z:Z w C S)(L:List Ad)(u:∀ c∈L,z.h c=none/\∃ fs,z.P c=some (.inst 256 fs)):Z w C S:=⟨z.P,z.A,I6 z.h L,z.n,z.kp,z.K.mark (λc t q=>(aa λm=>by rw[(u c m).1] at q;cases q).trans q) λc t q=>by
 by_cases m:c∈L
 ·exact(u c m).2.elim λfs e=>⟨_,e,rfl⟩
 ·exact z.K.rO c t ((aa m).symm.trans q)⟩
theorem Le.Eb{w':Wc}{C':Cont}{S':List Nat}{z0:Z w' C' S'}{z:Z w C S}(l:Le z0 z)(L:List Ad)(u:∀ c∈L,z.h c=none/\∃ fs,z.P c=some (.inst 256 fs))(nw:∀ c∈L,Nw z0 c):Le z0 (z.Eb L u):=⟨λc o q r k=>have y:=l.fr c o q r k;⟨y.1,(aa λm=>nw c m o q r k).trans y.2⟩,l.ad⟩
theorem Cells.mark(c:Cells P h a k fs ml cl xl al){L:List Ad}(p:∀ c∈L,∃ fs,P c=some (.inst 256 fs)):Cells P (I6 h L) a k fs ml cl xl al:=
 have f:∀{y o},P y=some o->(∀ fs,o≠.inst 256 fs)->I6 h L y=h y:=λe n=>aa λm=>(p _ m).elim λfs q=>n fs (kr (e.symm.trans q))
 {c with
  ua:=(f c.at_ λj q=>by cases q).trans c.ua,uf:=(f c.fd λj q=>by cases q).trans c.uf,um:=(f c.md λj q=>by cases q).trans c.um
  uc:=(f c.cd λj q=>by cases q).trans c.uc,ux:=(f c.xd λj q=>by cases q).trans c.ux,ud:=(f c.ad λj q=>by cases q).trans c.ud }
theorem Cells.Uw(c:Cells P h a k fs ml cl xl al)(b:Bt P P' k.md){tg:Nat × Nat}(hm:P' k.md=some (.dict tg ml'))(ea:Str->Ad)(er:Str->yt):Cells P' h a { k with tg:=tg,ea:=ea,er:=er } fs ml' cl xl al:=
 {at_:=b _ _ (oq c.at_ c.md yd) c.at_,fd:=b _ _ c.d1 c.fd,md:=hm,cd:=b _ _ (gz c.d3) c.cd,xd:=b _ _ (oq c.xd c.md yd) c.xd,ad:=b _ _ (oq c.ad c.md yd) c.ad
  ua:=c.ua,uf:=c.uf,um:=c.um,uc:=c.uc,ux:=c.ux,ud:=c.ud,d1:=c.d1,d2:=c.d2,d3:=c.d3,d4:=c.d4 }
theorem Cells.Uu(c:Cells P h a k fs ml cl xl al)(hx:P x=some (.dict (0,0) cl'))(u:h x=none)(n1:k.fd≠x)(n2:k.md≠x):Cells P h a { k with cd:=x } fs ml cl' xl al:={ c with cd:=hx,uc:=u,d2:=n1,d3:=n2 }
theorem Cells.Ut(c:Cells P h a k fs ml cl xl al)(hx:P x=some (.list (0,0) vs))(u:h x=none)(n:k.xd≠x):Cells P h a { k with ad:=x } fs ml cl xl vs:={ c with ad:=hx,ud:=u,d4:=n }
theorem Cells.Uv(c:Cells P h a k fs ml cl xl al)(hx:P x=some (.dict (0,0) []))(u:h x=none)(n1:x≠k.md)(n2:x≠k.cd):Cells P h a { k with fd:=x } fs ml cl xl al:={ c with fd:=hx,uf:=u,d1:=n1,d2:=n2 }
end
noncomputable def wR(num ow nm ic pa at' na kv:Va)(k:Kp):List (Nat × Va):=[(0,num),(1,ow),(2,.ref k.fd),(3,.none),(4,.bool false),(5,.none),(6,nm),(7,ic),(8,pa),(9,.none),(10,.ref k.md),(11,.ref k.cd),(12,.ref k.xd),(13,.ref k.ad),(14,at'),(15,na),(16,kv)]
section
variable{m:Nat}{X:XP}{Q:VQ}{w:Wc}{C:Cont}{S:List Nat}{i:Nat}{e:Ad}{num ow nm ic pa at' na kv:Va}{cl:List (Str × Va)}{xl al:List Va}{k:Kp}
structure Copied{w0:Wc}{C0:Cont}{S0:List Nat}(z0:Z w0 C0 S0)(z':Z w C S)(i:Nat)(e:Ad)(k:Kp)(fs:List (Nat × Va)):Prop where
 le:Le z0 z'
 nw:Ds z0 e k
 c:Cells z'.P z'.h e k fs (QI (C.c i).mt k.ea) ((C.c i).ct.map λq=>(q.1,.int q.2 0)) (z'.A.dD (C.c i).mx) (z'.A.dD (C.c i).ah)
 en:∀ q∈(C.c i).mt,z'.P (k.ea q.1)=some (.inst 256 (tK q.2 (k.er q.1)))/\z'.h (k.ea q.1)=some (9,99)
theorem oz{w0:Wc}{C0:Cont}{S0:List Nat}(z0:Z w0 C0 S0)(z:Z w C S)(l0:Le z0 z)(ha:z.A.ad i=some a)(hs:i∉S)(nw:Ds z0 e k)(c0:Cells z.P z.h e k (wR num ow nm ic pa at' na kv k) [] cl xl al)
  (hq:∀(z':Z w C S) k',k'.kp=k.kp->k'.fd=k.fd->z'.A=z.A->z'.n=z.n->Copied z0 z' i e k' (wR num ow nm (.bool (gM i)) (z.A.rf (par i)) at' (if (gW i).isNone then jG (nat i) else na) kv k')->Q .none z'.P):Calls (m+5) 422 [.ref a,.ref e] z.P X Q:=by
 have M:=z.at_ ha hs;have c1:=c0.put (wR num ow nm (.bool (gM i)) pa at' na kv k);have c2:=c1.put (wR num ow nm (.bool (gM i)) (z.A.rf (par i)) at' na kv k);let z1:=z.put e (.inst 228 (wR num ow nm (.bool (gM i)) pa at' na kv k)) c0.ua;let z2:=z1.put e (.inst 228 (wR num ow nm (.bool (gM i)) (z.A.rf (par i)) at' na kv k)) c0.ua;have l2:Le z0 z2:=(l0.put _ nw.n0 c0.ua).put _ nw.n0 c0.ua;refine aB 20 rfl rfl rfl (aG (v:=.bool (gM i)) M rfl rfl rfl (aG M rfl rfl (yh ..) (bQ c0.at_ rfl (dB rfl) (bQ c1.at_ rfl (dB rfl) (aU (z2.at_ ha hs) GV.1 (by rw[GV.2];trivial) (mz (m:=m+3) z2 ha hs ?_))))))
 have rest:∀(z3:Z w C S) (na':Va),Le z0 z3->z3.A=z.A->z3.n=z.n->Cells z3.P z3.h e k (wR num ow nm (.bool (gM i)) (z.A.rf (par i)) at' na' kv k) [] cl xl al->(if (gW i).isNone then jG (nat i) else na)=na'->wpS (m+4) (fF 6) (bV 2 kC) (some (.ref a)::some (.ref e)::nN 4) z3.P X (λy P'=>Q .none P') Q:=λz3 na' l3 A3 n3 c3 hna=>by
  have ha3:z3.A.ad i=some a:=by rw[A3];exact ha
  have M3:=z3.K.mod i a ha3 hs;refine aG (v:=.ref (z3.kp i).md) M3.at_ rfl rfl rfl (Pk M3.md ⟨k6 (fu (gi (ef ..)) (z3.K.wf.Jd i)) (),λep=>?_⟩);let zt:=z3.vN ha3 hs (ep,1);have lt:Le z0 zt:=l3.vN ha3 hs (ep,1);have ct:=c3.le ((Le.refl z3).vN ha3 hs (ep,1));have kt:zt.kp i={ z3.kp i with tg:=(ep,1) }:=ai rfl;have hit:((C.c i).mt.map λq=>(q.1,Value.ref ((z3.kp i).ea q.1))).map (λe=>Value.str e.1 0)=(C.c i).mt.map λq=>.str q.1 0:=by rw[ir];rfl
  rw[hit];have nmd:∀{c o},zt.h c≠none->zt.P c=some o->c≠k.md:=λq y x=>q (by rw[x];exact ct.um);refine xO (m:=m) zt ha3 hs (by rw[kt]) ct.at_ rfl ct.md nmd (oq ct.at_ ct.md yd) (aA ..) (by show z3.h _≠none;rw[M3.om];intro q;cases q) (C.c i).mt [] zt.P (λy=>0) (λy=>⟨"",0,0⟩) k.tg none none rfl ⟨Bt.refl _ _,ct.md,λq hq=>absurd hq gk⟩ λP4 ea er tg v2 v3 cp=>?_;let z5:=zt.Ti ct.um P4 cp.bt;have l5:Le z0 z5:=lt.Ti nw.n2 ct.um P4 cp.bt;have c5:=ct.Uw cp.bt cp.md ea er;have M5:=z5.K.mod i a ha3 hs;have fr:∀{P':PH} {c f:Ad} {o:PO},P' c=some o->P' f=none->c≠f:=λp q x=>by rw[x,q] at p;cases p
  refine aG (v:=.ref (z5.kp i).cd) M5.at_ rfl rfl rfl (cX M5.cd (k6 (fu (gi (ef ..)) (z3.K.wf.Tn i)) ()) λf hf=>?_);let z6:=z5.new f (.dict (0,0) ((C.c i).ct.map λq=>(q.1,.int q.2 0))) hf;have c6:Cells z6.P z6.h e { k with tg:=tg,ea:=ea,er:=er,cd:=f } _ _ _ _ _:=((c5:Cells z5.P z5.h _ _ _ _ _ _ _).le ((Le.refl z5).new (.dict (0,0) ((C.c i).ct.map λq=>(q.1,.int q.2 0))) hf)).Uu (aA ..) (z5.un hf) (fr c5.fd hf) (fr c5.md hf);have c7:=c6.put (wR num ow nm (.bool (gM i)) (z.A.rf (par i)) at' na' kv { k with cd:=f });let z7:=z6.put e (.inst 228 (wR num ow nm (.bool (gM i)) (z.A.rf (par i)) at' na' kv { k with cd:=f })) c6.ua;have l7:Le z0 z7:=(l5.new _ hf).put _ nw.n0 c6.ua;have M7:=z7.K.mod i a ha3 hs;refine bQ c6.at_ rfl (dB rfl) (aG (v:=.ref (z7.kp i).xd) M7.at_ rfl rfl rfl (tS M7.xd (w4 (cK _ (z3.K.wf.us i).1)) λg hg=>?_));let z8:=z7.new g (.list (0,0) (z7.A.dD (C.c i).mx)) hg;have c8:Cells z8.P z8.h e { k with tg:=tg,ea:=ea,er:=er,cd:=f,xd:=g } _ _ _ _ _:=((c7:Cells z7.P z7.h _ _ _ _ _ _ _).le ((Le.refl z7).new (.list (0,0) (z7.A.dD (C.c i).mx)) hg)).R9 (aA ..) (z7.un hg) (gz (fr c7.ad hg));have l8:Le z0 z8:=l7.new _ hg;have M8:=z8.K.mod i a ha3 hs;refine aG (v:=.ref (z8.kp i).ad) M8.at_ rfl rfl rfl (tS M8.ad (w4 (cK _ (z3.K.wf.us i).2)) λj hj=>?_);let z9:=z8.new j (.list (0,0) (z8.A.dD (C.c i).ah)) hj;have c9:Cells z9.P z9.h e { k with tg:=tg,ea:=ea,er:=er,cd:=f,xd:=g,ad:=j } _ _ _ _ _:=((c8:Cells z8.P z8.h _ _ _ _ _ _ _).le ((Le.refl z8).new (.list (0,0) (z8.A.dD (C.c i).ah)) hj)).Ut (aA ..) (z8.un hj) (fr c8.xd hj);have l9:Le z0 z9:=l8.new _ hj;have c10:=c9.put (wR num ow nm (.bool (gM i)) (z.A.rf (par i)) at' na' kv { k with cd:=f,xd:=g });have c11:=c10.put (wR num ow nm (.bool (gM i)) (z.A.rf (par i)) at' na' kv { k with cd:=f,xd:=g,ad:=j });let EC:=z9.put e (.inst 228 (wR num ow nm (.bool (gM i)) (z.A.rf (par i)) at' na' kv { k with cd:=f,xd:=g })) c9.ua;let BQ:=EC.put e (.inst 228 (wR num ow nm (.bool (gM i)) (z.A.rf (par i)) at' na' kv { k with cd:=f,xd:=g,ad:=j })) c9.ua;have l11:Le z0 BQ:=(l9.put _ nw.n0 c9.ua).put _ nw.n0 c9.ua
  have pe:∀ q∈(C.c i).mt,BQ.P (ea q.1)=some (.inst 256 (tK q.2 (er q.1)))/\BQ.h (ea q.1)=none/\Nw z0 (ea q.1):=λq hq=>
   have p:=cp.en q hq;have n:ea q.1≠e:=oq p.1 c5.at_ (by intro x;cases x)
   ⟨(aD n).trans ((aD n).trans (aI (aI ((aD n).trans (aI p.1 hf)) hg) hj)),zt.un p.2,(Nw.none zt p.2).of lt⟩
  have pL:∀ c∈(C.c i).mt.map λq=>ea q.1,(BQ.h c=none/\∃ fs,BQ.P c=some (.inst 256 fs))/\Nw z0 c:=λc hc=>(List.mem_map.mp hc).elim λq hq=>by rw[<-hq.2];exact⟨⟨(pe q hq.1).2.1,_,(pe q hq.1).1⟩,(pe q hq.1).2.2⟩
  let z12:=BQ.Eb ((C.c i).mt.map λq=>ea q.1) λc hc=>(pL c hc).1;have l12:Le z0 z12:=l11.Eb _ _ λc hc=>(pL c hc).2;refine bQ c9.at_ rfl (dB rfl) (bQ c10.at_ rfl (dB rfl) (hq z12 { k with tg:=tg,ea:=ea,er:=er,cd:=f,xd:=g,ad:=j } rfl rfl A3 n3 ⟨l12,⟨nw.n0,nw.n1,nw.n2,(Nw.none z5 hf).of l5,(Nw.none z7 hg).of l7,(Nw.none z8 hj).of l8⟩,?_,λq hq=>⟨(pe q hq).1,ai (List.mem_map.mpr ⟨q,hq,rfl⟩)⟩⟩));rw[hna];exact c11.mark λc hc=>(pL c hc).1.2
 by_cases hn:(gW i).isNone=true
 ·refine bf (by rw[hn];rfl) (aG (v:=jG (nat i)) (z2.at_ ha hs) rfl rfl (tY _) (bQ c2.at_ rfl (dB rfl) ?_))
  exact rest (z2.put e _ c2.ua) (jG (nat i)) (l2.put _ nw.n0 c2.ua) rfl rfl (c2.put _) (by rw[hn];rfl)
 ·exact bt (by rw[Bool.eq_false_iff.mpr hn];rfl) (rest z2 na l2 rfl rfl c2 (aa hn))
end
end
section
variable{w:Wc}{C C':Cont}{S:List Nat}{A:lE}{h h':eT}{n:Nm}{kp:Nat->Kp}{i:Nat}{x:Ad}{k:Kp}
theorem Ba{q:Nat}(hq:∀ j,par j≠some q)(hc:∀ j,j≠q->C'.c j=C.c j):∀ k i,i≠q->jO C' k i=jO C k i:=by
 intro rr;induction rr with
 | zero=>exactλy y=>rfl
 | succ k ih=>
  intro i n;show eK C' _ i=eK C _ i;unfold eK mQ;rw[hc i n];cases e:par i with
  | none=>rfl
  | some p=>dsimp only;rw[ih p λz=>hq i (z▸e)]
theorem zx(q:Nat)(hq:q=14\/q=21)(j:Nat):par j≠some q:=by
 have key:∀ j,j<22->par j≠some 14/\par j≠some 21:=⋯;by_cases hj:j<22
 ·rcases hq with rfl|rfl
  ·exact(key j hj).1
  ·exact(key j hj).2
 ·intro h
  unfold par at h;rw[ji (Nat.le_of_not_lt hj)] at h;cases h
noncomputable def GW(h:eT)(i:Nat):eT:=λc=>match h c with
 | some t=>if t.2=i then none else some t
 | none=>none
theorem nS{c:Ad}{t:Tag}(e:h c=some t)(n:t.2≠i):GW h i c=some t:=by unfold GW;rw[e];exact aa n
theorem kM{c:Ad}{t:Tag}(e:h c=some t)(n:t.2=i):GW h i c=none:=by unfold GW;rw[e];exact ai n
theorem Qt{c:Ad}{t:Tag}(e:GW h i c=some t):h c=some t:=by
 unfold GW at e;cases q:h c with
 | none=>rw[q] at e;cases e
 | some t'=>
  rw[q] at e;dsimp only at e;split at e
  ·cases e
  ·exact e
theorem Core.yr(K:Core w C [] P A h n kp)(hi:i<22)(hc:∀ j,j≠i->C'.c j=C.c j)(he:C'.ex=C.ex)(hlk:C'.lk=C.lk)(W:jV C')(hp:∀ j,par j≠some i):Core w C' [i] P A (GW h i) n kp:=
 have n50:∀{x:Nat},(x,50).2≠i:=λq=>absurd hi (by rw[show i=50 from q.symm];decide);have nn':∀{j},j∉[i]->j≠i:=λs q=>s (by rw[q];exact .head _)
 {W:=K.W,gO:=K.gO,nd:=K.nd,pd:=K.pd,vC:=K.vC,w5:=K.w5,vB:=K.vB
  mod:=λj b e s=>by
   have q:=nn' s;refine(K.mod j b e nn).move e (K.ref j b e nn) (λc o t x y p u=>⟨p,nS x λz=>?_⟩) (λu u x=>⟨x,rfl⟩) (by rw[hlk]) (hc j q) (eu _) λu=>Ba hp hc 12 j q;rcases y with y|y
   ·exact q (y.symm.trans z)
   ·exact absurd hi (by rw[<-z,y];decide)
  ref:=λj b e s=>by
   have:=K.ref j b e nn;unfold refsOf at this ⊢
   rwa [hc j (nn' s),hlk]
  inj:=K.inj,le:=K.le,lk:=λj q=>K.lk j (by rwa [hlk] at q),ex:=λj q=>by rw[he];exact K.ex j q
  wf:=W,oW:=nS K.oW n50,om:=nS K.om n50,on:=nS K.on n50,op:=nS K.op n50,rO:=λc t q=>K.rO c t (Qt q) }
noncomputable def Z.yr(z:Z w C [])(hi:i<22)(hc:∀ j,j≠i->C'.c j=C.c j)(he:C'.ex=C.ex)(hlk:C'.lk=C.lk)(W:jV C')(hp:∀ j,par j≠some i):Z w C' [i]:=⟨z.P,z.A,GW z.h i,z.n,z.kp,z.K.yr hi hc he hlk W hp⟩
theorem Le.yr{w':Wc}{C0:Cont}{S':List Nat}{z0:Z w' C0 S'}{z:Z w C []}(l:Le z0 z)(hi:i<22)(hc:∀ j,j≠i->C'.c j=C.c j)(he:C'.ex=C.ex)(hlk:C'.lk=C.lk)(W:jV C')(hp:∀ j,par j≠some i):Le z0 (z.yr hi hc he hlk W hp):=
 ⟨λc o q r k=>have y:=l.fr c o q r k;⟨y.1,by
  rw[<-y.2];rw[<-y.2] at k;rcases k with k|⟨t,k⟩
  ·show GW z.h i c=_;unfold GW;rw[k]
  ·show GW z.h i c=_;rw[k];exact nS k λz=>absurd hi (by rw[show i=99 from z.symm];decide)⟩,l.ad⟩
theorem Z.cellsOf(z:Z w C [])(ha:z.A.ad i=some a){o:Co}(ho:(C.c i)=o):Cells z.P (GW z.h i) a (z.kp i) (lT z.A (C.lk i) i (z.kp i)) (o.mt.map λq=>(q.1,.ref ((z.kp i).ea q.1))) (o.ct.map λq=>(q.1,.int q.2 0)) (z.A.dD o.mx) (z.A.dD o.ah):=by have M:=z.K.mod i a ha nn;have ne:∀{c c':Ad} {t t':Tag},z.h c=some t->z.h c'=some t'->t≠t'->c≠c':=λp q r x=>r (by subst x;exact kr (p.symm.trans q));rw[<-ho];exact⟨M.at_,M.fd,M.md,M.cd,M.xd,M.ad,kM M.oa rfl,kM M.of rfl,kM M.om rfl,kM M.oc rfl,kM M.ox rfl,kM M.od rfl,ne M.of M.om eY,ne M.of M.oc eY,ne M.om M.oc eY,ne M.ox M.od eY⟩
theorem Z.Uz(z:Z w C [])(ha:z.A.ad i=some a):Ds z a (z.kp i):=by
 have M:=z.K.mod i a ha nn;have lt:=(z.K.le i a ha).2
 have ne:∀{c x},z.h c=some (x,i)->Nw z c:=λp o q q k=>by
  rw[p] at k;rcases k with k|⟨t,k⟩
  ·cases k
  ·exact absurd lt (by rw[show i=99 from aj Prod.snd (kr k)];decide)
 exact⟨ne M.oa,ne M.of,ne M.om,ne M.oc,ne M.ox,ne M.od⟩
end
theorem C7:lJ 228 62=false/\lJ 228 82=false/\lJ 228 120=false/\lJ 228 140=false/\lJ 228 181=false/\lJ 228 161=false/\lJ 228 201=false:=⋯
noncomputable def kW(C:Cont):Cont:=C.new 14 (C.c 13)
section
variable{m:Nat}{X:XP}{Q:VQ}{w:Wc}{C:Cont}{i:Nat}{b c e:Ad}{num:Int}{k:Kp}{v0:Va}
theorem Ao(z0 z:Z w C [])(l0:Le z0 z)(ha:z.A.ad i=some a)(hat:gW i=none)(nw:Ds z0 e k)(c0:Cells z.P z.h e k (wR (.int num 0) (.ref c) .none (.bool true) (.ref b) .none .none .none k) [] [] [] [])(hk:k.kp=none)
  (hq:∀(z':Z w C []) k',k'.kp=none->z'.A=z.A->z'.n=z.n->Copied z0 z' i e k' (wR (.int num 0) (.ref c) .none (.bool (gM i)) (z.A.rf (par i)) .none (jG (nat i)) .none k')->Q .none z'.P):Calls (m+6) 408 [.ref a,.ref e] z.P X Q:=by
 have M:=z.K.mod i a ha nn;refine fU 19 rfl rfl rfl (aG (v:=.ref (z.kp i).fd) M.at_ rfl rfl rfl (cX M.fd bl λf hf=>?_));have c1:=(c0.le ((Le.refl z).new (.dict (0,0) []) hf)).Uv (x:=f) (aA ..) (z.un hf) (λx=>by rw[x,c0.md] at hf;cases hf) (λx=>by rw[x,c0.cd] at hf;cases hf);have c2:=c1.put (wR (.int num 0) (.ref c) .none (.bool true) (.ref b) .none .none .none { k with fd:=f });let z1:=z.new f (.dict (0,0) []) hf;let z2:=z1.put e (.inst 228 (wR (.int num 0) (.ref c) .none (.bool true) (.ref b) .none .none .none { k with fd:=f })) c1.ua;have l2:Le z0 z2:=(l0.new _ hf).put _ nw.n0 c1.ua;have nw2:Ds z0 e { k with fd:=f }:=⟨nw.n0,(Nw.none z hf).of l0,nw.n2,nw.n3,nw.n4,nw.n5⟩
 have M2:=z2.at_ ha nn;refine bQ c1.at_ rfl (dB rfl) ⟨rfl,bS M2 rfl (bf C7.1 ⟨rfl,bS M2 rfl (bf C7.2.1 ⟨rfl,bS M2 rfl (bf C7.2.2.1 ⟨rfl,bS M2 rfl (bf C7.2.2.2.1 ⟨rfl,bS M2 rfl (bf C7.2.2.2.2.1 ⟨rfl,bS M2 rfl (bf C7.2.2.2.2.2.1 ⟨rfl,bS M2 rfl (bt xe ?_)⟩)⟩)⟩)⟩)⟩)⟩)⟩;refine oz (m:=m) z0 z2 l2 ha nn nw2 c2 λz3 k3 k3n j A3 n3 cp=>?_;refine hq z3.drop k3 (k3n.trans hk) A3 n3 ?_;rw[hat] at cp;exact⟨cp.le.drop,cp.nw,cp.c.le (Le.refl z3).drop,λq hq=>⟨cS (cp.en q hq).1 rfl,(cp.en q hq).2⟩⟩
theorem sf{j:Nat}(h:j≠14):(kW C).c j=C.c j:=aa h
theorem xR:(kW C).c 14=C.c 13:=rfl
theorem jV.dup(W:jV C):jV (kW C) where
 base:=λj h=>by rw[sf (by lia)];exact W.base j h
 BS:=λj h=>by rw[sf (by lia)];exact W.BS j h
 us:=λj=>by
  by_cases q:j=14
  ·rw[q,xR];exact W.us 13
  ·rw[sf q];exact W.us j
 u5:=λj h=>by
  by_cases q:j=14
  ·rw[q,xR];exact W.u5 13 ()
  ·rw[sf q];exact W.u5 j h
 nd:=λj=>by
  by_cases q:j=14
  ·rw[q,xR];exact W.nd 13
  ·rw[sf q];exact W.nd j
 nc:=λj=>by
  by_cases q:j=14
  ·rw[q,xR];exact W.nc 13
  ·rw[sf q];exact W.nc j
theorem xH(z:Z w C [])(ha:z.A.ad 13=some a)(h3:z.A.ad 3=some c)(h1:z.A.ad 1=some b)(n14:z.A.ad 14=none)(hq:∀(z':Z w (kW C) []) e,Le z z'->z'.A.ad 14=some e->Q (.ref e) z'.P):Calls (m+8) 429 [.ref w.W,.ref a] z.P X Q:=by
 have M:=z.at_ ha nn;have hc:eH 1 (lT z.A (C.lk 13) 13 (z.kp 13))=some (.ref c):=aj some (aQ h3);refine aB 21 rfl rfl rfl ⟨rfl,bS M rfl (bt Ke ⟨rfl,bS M rfl (bf C7.2.2.2.2.2.2 (aU z.K.W NN.1 (by rw[NN.2];exact MZ w z.n) (aU z.K.W Tp.1 (by rw[Tp.2];trivial) (uw (m:=m+6) M rfl rfl hc rfl (oE (m:=m+3) z h3 h1 λz1 e k num r=>?_)))))⟩)⟩;have ha1:z1.A.ad 13=some a:=by rw[r.A];exact ha
 refine Ao (m:=m+1) z z1 r.le ha1 rfl r.nw r.c r.kn λz2 k2 k2n A2 n2 cp=>?_;have A20:z2.A=z.A:=A2.trans r.A;have n20:z2.A.ad 14=none:=by rw[A20];exact n14
 have ex:∀ j∈refsOf C 13,∃ b,z2.A.ad j=some b:=λj hj=>by rw[A20];exact z.K.ref 13 a ha nn j hj
 have so:=bT (a:=e) (num:=num) n20
 have fe:wR (.int num 0) (.ref c) .none (.bool (gM 13)) (z1.A.rf (par 13)) .none (jG (nat 13)) .none k2=lT (z2.A.set 14 e num) false 14 k2:=
  vv (A:=z2.A.set 14 e num) (lk:=false) (i:=14) (k:=k2) (by rw[show(z2.A.set 14 e num).num 14=num from rfl]) (aQ (so _ _ (by rw[A20];exact h3)).1).symm rfl rfl rfl
   (by rw[<-A2];exact(pJ (o:=par 13) so λj hj=>ex j (iO hj)).symm) rfl rfl (by unfold Kp.kv;rw[k2n];rfl)
 have hr:∀ j∈qx 14::((par 14).toList++(gW 14).toList++(C.c 13).mx++(C.c 13).ah),∃ b,(z2.A.set 14 e num).ad j=some b:=λj hj=>(ex j (by
  unfold refsOf;have:qx 14=qx 13/\par 14=par 13/\gW 14=gW 13:=⋯;rw[this.1,this.2.1,this.2.2] at hj;rcases ku hj with h|h
  ·rw[h];exact .head _
  ·exact .tail _ (fh _ h))).imp λb x=>(so j b x).1
 have rs:∀ l,(∀ j∈l,∃ b,z2.A.ad j=some b)->z2.A.dD l=(z2.A.set 14 e num).dD l:=λl hl=>(zF so hl).symm
 let z3:=z2.Hf (i:=14) (e:=e) (num:=num) (k:=k2) (o:=C.c 13) n20 () (by rw[n2];exact r.Ul) (by rw[A20];exact r.fr) z2.K.wf.dup (λj b hj=>Ba (zx 14 (.inl rfl)) (λj h=>sf h) 12 j λq=>by rw[q,n20] at hj;cases hj)
  (cp.c.cast fe rfl rfl (rs _ λj hj=>ex j (vt hj)) (rs _ λj hj=>ex j (vq hj))) cp.en k2n hr
 exact hq z3 e (cp.le.Hf (num:=num) cp.nw n20 rfl rfl rfl) (set_same ..)
end
theorem tZ(k:Nat):∀(C:Cont) (i:Nat),eO C->(∃ o,cV i=some o)->(cW k C i).c=C.c:=by
 induction k with
 | zero=>exactλj j j j=>rfl
 | succ k ih=>
  intro C i V ⟨o,ho⟩;rw[iR];by_cases l:C.lk i=true
  ·rw[ai l]
  ·rw[aa l,ho]
   have hl:C.lk i=false:=by simpa using l
   cases q:par i with
   | none=>exact Ef (V i o ho hl).2
   | some p=>have hp:=(jU.of ho).up p q;have e:=ih C p V hp;exact(Ef (C:=cW k C p) (by rw[e];exact(V i o ho hl).2)).trans e
noncomputable def nV(C:Cont):Cont:=C.upd 21 (C.c 20)
noncomputable def qb(C:Cont):Cont:=if C.lk 13 then nV (cW 8 C 14) else C
section
variable{m:Nat}{X:XP}{Q:VQ}{w:Wc}{C:Cont}{i:Nat}{b c e:Ad}{num:Int}{k:Kp}{v0:Va}
theorem jV.nV(W:jV C):jV (nV C) where
 base:=λj h=>by
  by_cases q:j=21
  ·rw[q];exact W.base 20 ()
  ·unfold Mine.nV;rw[dH q];exact W.base j h
 BS:=λj h=>by unfold Mine.nV;rw[dH (by lia)];exact W.BS j h
 us:=λj=>by
  by_cases q:j=21
  ·rw[q];exact W.us 20
  ·unfold Mine.nV;rw[dH q];exact W.us j
 u5:=λj h=>by
  by_cases q:j=21
  ·rw[q];exact W.u5 20 ()
  ·unfold Mine.nV;rw[dH q];exact W.u5 j h
 nd:=λj=>by
  by_cases q:j=21
  ·rw[q];exact W.nd 20
  ·unfold Mine.nV;rw[dH q];exact W.nd j
 nc:=λj=>by
  by_cases q:j=21
  ·rw[q];exact W.nc 20
  ·unfold Mine.nV;rw[dH q];exact W.nc j
theorem uz(z:Z w C [])(ha:z.A.ad 13=some a)(he:z.A.ad 14=some e)(h3:z.A.ad 3=some c)(V:eO C)(L:sF C)(l14:C.lk 14=false)(hq:∀(z':Z w (qb C) []),Le z z'->Q .none z'.P):Calls (m+16) 649 [.ref w.W,.ref a,.ref e] z.P X Q:=by
 have M:=z.at_ ha nn;refine aB 50 rfl rfl rfl ?_;by_cases l13:C.lk 13=true;rotate_left
 ·have hq':=hq
  unfold qb at hq';rw[aa l13] at hq';exact aG (v:=.none) M rfl (zl z (by simpa using l13)) rfl ⟨rfl,hq' z (.refl z)⟩
 unfold qb at hq;rw[ai l13] at hq;obtain⟨b,hb,hg⟩:=ze z ha l13 rfl;replace hb:z.A.ad 20=some b:=hb;refine aG (v:=.ref b) M rfl hg rfl ⟨rfl,aG (v:=.ref b) M rfl hg rfl (p8 8 14 z (qD 14) (o:=21) rfl he h3 V L λz1 d l1 hd hk=>?_)⟩;have k21:=hk l14
 have lk21:(cW 8 C 14).lk 21=false:=by
  rw[Bo 8 C 14 21 ⋯];cases q:C.lk 21 with
  | false=>rfl
  | true=>have:=L 21 q;cases this
 have Oo:(cW 8 C 14).c 21=dZ:=by rw[tZ 8 C 14 V ⟨21,rfl⟩];exact(V 14 21 rfl l14).2
 have W2:=z1.K.wf.nV;let z2:Z w (nV (cW 8 C 14)) [21]:=z1.yr () (λj h=>dH h) rfl rfl W2 (zx 21 (.inr rfl));have l2:Le z1 z2:=(Le.refl z1).yr () (λj h=>dH h) rfl rfl W2 (zx 21 (.inr rfl));have c0:=(z1.cellsOf hd Oo).cast (fs':=wR (.int (z1.A.num 21) 0) (z1.A.rf (some 3)) .none (.bool true) (z1.A.rf (par 21)) (z1.A.rf (gW 21)) .none (z1.kp 21).kv (z1.kp 21)) (by rw[lk21];rfl) rfl rfl rfl rfl;refine oz (m:=m+10) (i:=20) (k:=z1.kp 21) z1 z2 l2 (l1.ad 20 b hb).1 () (z1.Uz hd) c0 λz3 k3 k3n y A3 n3 cp=>?_;have hd3:z3.A.ad 21=some d:=by rw[A3];exact hd
 have b20:=z1.K.wf.base 20 ();have fe:wR (.int (z1.A.num 21) 0) (z1.A.rf (some 3)) .none (.bool (gM 20)) (z2.A.rf (par 20)) (z1.A.rf (gW 21)) (if (gW 20).isNone then jG (nat 20) else .none) (z1.kp 21).kv k3=lT z3.A ((nV (cW 8 C 14)).lk 21) 21 k3:=by rw[show(nV (cW 8 C 14)).lk 21=false from lk21,show(z1.kp 21).kv=k3.kv by unfold Kp.kv;rw[k3n]];show wR (.int (z2.A.num 21) 0) (z2.A.rf (some 3)) .none (.bool true) (z2.A.rf (par 21)) (z2.A.rf (gW 21)) .none k3.kv k3=_;rw[<-A3];rfl
 let z4:=z3.close (k:=k3) hd3 (cp.c.cast fe rfl rfl rfl rfl) cp.en (k3n.trans k21) (λj hj=>by have:=z1.K.ref 21 d hd nn j (by unfold refsOf at hj ⊢;rw[show(nV (cW 8 C 14)).lk 21=false from lk21,show(nV (cW 8 C 14)).c 21=(cW 8 C 14).c 20 from rfl,b20.2.1,b20.2.2] at hj;rw[lk21,Oo];exact hj);rw[A3];exact this)
 have l4:Le z z4:=l1.trans (cp.le.Ss cp.nw rfl rfl rfl);exact aG (v:=.int z4.n.V 0) z4.K.W rfl rfl rfl (bQ z4.K.W rfl (qL w z4.n) (hq (z4.iB z4.n.N (z4.n.V+1) z4.n.cv (eu _) (g5 (eu _))) (l4.iB _ _)))
noncomputable def ru(C:Cont):Cont:=qb (kW C)
theorem yM(V:eO C):eO (kW C):=λi o h l=>by
 have n:o≠14:=λq=>by have:=(jU.of h).ao;rw[q] at this;cases this
 exact⟨(aa n).trans (V i o h l).1,(sf n).trans (V i o h l).2⟩
theorem Q7(z:Z w C [])(ha:z.A.ad 13=some a)(h3:z.A.ad 3=some c)(h1:z.A.ad 1=some b)(n14:z.A.ad 14=none)(V:eO C)(L:sF C)(hq:∀(z':Z w (ru C) []) e,Le z z'->z'.A.ad 14=some e->Q (.ref e) z'.P):Calls (m+17) 656 [.ref w.W,.ref a,v0] z.P X Q:=by
 refine aB 51 rfl rfl rfl (xH (m:=m+8) z ha h3 h1 n14 λz1 e l1 he=>?_)
 have l14:(kW C).lk 14=false:=by
  cases q:C.lk 14 with
  | false=>exact q
  | true=>exact(z.K.lk 14 q).elim λb h=>by rw[n14] at h;cases h
 have ha1:=(l1.ad 13 a ha).1;exact⟨rfl,bS (z1.at_ ha1 nn) rfl (bt xe (uz (m:=m) z1 ha1 he (l1.ad 3 c h3).1 (yM V) L l14 λz2 l2=>hq z2 e (l1.trans l2) (l2.ad 14 e he).1))⟩
theorem K4(z:Z w C [])(ha:z.A.ad 13=some a)(h3:z.A.ad 3=some c)(h1:z.A.ad 1=some b)(n14:z.A.ad 14=none)(V:eO C)(L:sF C)(hq:∀(z':Z w (ru C) []) e,Le z z'->z'.A.ad 14=some e->Q (.ref e) z'.P):Calls (m+17) 663 [.ref w.W,.ref a,v0] z.P X Q:=by
 refine aB 52 rfl rfl rfl (xH (m:=m+8) z ha h3 h1 n14 λz1 e l1 he=>?_)
 have l14:(kW C).lk 14=false:=by
  cases q:C.lk 14 with
  | false=>exact q
  | true=>exact(z.K.lk 14 q).elim λb h=>by rw[n14] at h;cases h
 have ha1:=(l1.ad 13 a ha).1;refine⟨rfl,bS (z1.at_ ha1 nn) rfl (bt Ke (uz (m:=m) z1 ha1 he (l1.ad 3 c h3).1 (yM V) L l14 λz2 l2=>?_))⟩;have uX:=(l2.ad 14 e he).1;have M:=z2.at_ uX nn;refine aG (v:=.bool false) (z2.at_ (l2.ad 13 a ha1).1 nn) rfl rfl rfl (bQ M rfl (dB rfl) ?_)
 have same:upd z2.P e (.inst 228 (lT z2.A ((ru C).lk 14) 14 (z2.kp 14)))=z2.P:=funext λy=>by
  by_cases q:y=e
  ·rw[q,aA];exact M.symm
  ·exact aD q
 show Q (.ref e) (upd z2.P e (.inst 228 (lT z2.A ((ru C).lk 14) 14 (z2.kp 14))));rw[same];exact hq z2 e (l1.trans l2) uX
end
noncomputable def C0:Cont:=⟨λq=>false,λq=>false,λi=>⟨[],[],wu i,[]⟩⟩
theorem Ht(i:Nat):wu i∈OA/\(12<=i->wu i∈oG):=by
 unfold wu;by_cases h1:i=1
 ·subst h1;exact⟨⋯,()⟩
 by_cases h7:i=7
 ·subst h7;exact⟨⋯,()⟩
 by_cases h8:i=8
 ·subst h8;exact⟨⋯,()⟩
 rw[aa h1,aa h7,aa h8];exact⟨⋯,λq=>⋯⟩
theorem Tf:jV C0 where
 base:=λi j=>⟨rfl,rfl,rfl⟩
 BS:=λi j=>rfl
 us:=λi=>⟨(Ht i).1,(by decide +kernel:([]:List Nat)∈OA)⟩
 u5:=λi h=>⟨(Ht i).2 h,(by decide +kernel:([]:List Nat)∈oG)⟩
 nd:=λi=>⟨List.nodup_nil,λq h=>by cases h⟩
 nc:=λi=>⟨List.nodup_nil,λq h=>by cases h⟩
section
variable{m:Nat}{X:XP}{Q:VQ}{w:Wc}{C:Cont}{nd pd gO:Ad}{P0:PH}
noncomputable def A0:lE:=⟨λq=>none,λq=>0⟩
noncomputable def Tg(w:Wc)(P0:PH)(hW:P0 w.W=some (.inst 1055 (s8 w ⟨0,0,0,[]⟩)))(h1:P0 w.gO=some (.dict (0,0) []))(h2:P0 w.nd=some (.dict (0,0) []))(h3:P0 w.pd=some (.dict (0,0) []))(n1:w.nd≠w.gO)(n2:w.pd≠w.gO):Z w C0 [] where
 P:=P0
 A:=A0
 h:=eS (eS (eS (eS (λy=>none) w.nd (7,50)) w.pd (7,50)) w.gO (6,50)) w.W (5,50)
 n:=⟨0,0,0,[]⟩
 kp:=λy=>k0 0 0 0 0 0
 K:=
  have nW:∀{c t l},P0 c=some (.dict t l)->c≠w.W:=λp q=>by rw[q,hW] at p;cases p
  {W:=hW,gO:=h1,nd:=h2,pd:=h3,vC:=⋯,w5:=λq h=>(by cases h),vB:=λi x y=>rfl
   mod:=λi a e=>by cases e
   ref:=λi a e=>by cases e
   inj:=λi j a b e=>by cases e
   le:=λi a e=>by cases e
   lk:=λi e=>by cases e
   ex:=λi y=>rfl
   wf:=Tf
   oW:=bX ..,om:=(aM (nW h1)).trans (bX ..)
   on:=(aM (nW h2)).trans ((aM n1).trans (by
    by_cases q:w.nd=w.pd
    ·rw[q];exact bX ..
    ·exact(aM q).trans (bX ..)))
   op:=(aM (nW h3)).trans ((aM n2).trans (bX ..))
   rO:=λc t q=>by
    by_cases e1:c=w.W
    ·exact⟨_,by rw[e1];exact hW,rfl⟩
    rw[aM e1] at q;by_cases e2:c=w.gO
    ·exact⟨_,by rw[e2];exact h1,rfl⟩
    rw[aM e2] at q;by_cases e3:c=w.pd
    ·exact⟨_,by rw[e3];exact h3,rfl⟩
    rw[aM e3] at q;by_cases e4:c=w.nd
    ·exact⟨_,by rw[e4];exact h2,rfl⟩
    rw[aM e4] at q;cases q }
noncomputable def Z.wf'{S:List Nat}(z:Z w C S)(w':Wc)(e:w'.W=w.W/\w'.nd=w.nd/\w'.pd=w.pd/\w'.gO=w.gO):Z w' C S where
 P:=upd z.P w.W (.inst 1055 (s8 w' z.n))
 A:=z.A
 h:=z.h
 n:=z.n
 kp:=z.kp
 K:=
  have K:=z.K;have ne:∀{c o t},z.h c=some t->t≠(5,50)->z.P c=some o->upd z.P w.W (.inst 1055 (s8 w' z.n)) c=some o:=λq r p=>(aD λx=>r (by subst x;exact kr (q.symm.trans K.oW))).trans p
  {W:=by rw[e.1];exact aA ..,gO:=by rw[e.2.2.2];exact ne K.om () K.gO,nd:=by rw[e.2.1];exact ne K.on () K.nd,pd:=by rw[e.2.2.1];exact ne K.op () K.pd,vC:=K.vC,w5:=K.w5,vB:=K.vB
   mod:=λi a e s=>(K.mod i a e s).move e (K.ref i a e s) (λc o t q r p y=>⟨ne q (λx=>by
    subst x;rcases r with r|r
    ·exact absurd (K.le i a e).2 (by rw[<-r];decide)
    ·cases r) p,q⟩) (λj b q=>⟨q,rfl⟩) rfl rfl (eu _) λy=>rfl
   ref:=K.ref,inj:=K.inj,le:=K.le,lk:=K.lk,ex:=K.ex,wf:=K.wf,oW:=by rw[e.1];exact K.oW,om:=by rw[e.2.2.2];exact K.om,on:=by rw[e.2.1];exact K.on,op:=by rw[e.2.2.1];exact K.op
   rO:=λc t q=>stand rfl (K.rO c t q) }
theorem Le.wf'{w0:Wc}{C':Cont}{S S':List Nat}{z0:Z w0 C' S'}{z:Z w C S}(l:Le z0 z)(w':Wc)(e:w'.W=w.W/\w'.nd=w.nd/\w'.pd=w.pd/\w'.gO=w.gO):Le z0 (z.wf' w' e):=l.trans
 ⟨λc o q j k=>⟨(aD λx=>by rw[x,z.K.oW] at k;rcases k with k|⟨t,k⟩<;>cases k).trans q,rfl⟩,λj j h=>⟨h,rfl⟩⟩
end
section
variable{m:Nat}{X:XP}{Q:VQ}{nd:Ad}{P0:PH}
theorem E8{w:Wc}{C:Cont}(z:Z w C []){l:Ad}{o:PO}(hl:z.P l=some o){N:NP}{v0 v1 v2 v3 v4 v6 v7:Op Va}:∀(r:List (Str × Va)) (v5:Op Va),v0=some (.ref w.W)->(∀ q∈r,q.1.length<big)->(∀ v5,N [v0,v1,v2,v3,v4,v5,v6,v7] z.P)->cM (λv l P' k=>wpS (m+1) (fF 8) (.seq (.expr (.aS (.loc 0) 11 (.cons (.loc 5) .nil))) .skip) (l.set 5 (some v)) (kD (fF 8) 5 P') X k Q) (λP'=>P' l=some o) (r.map λe=>.str e.1 0) [v0,v1,v2,v3,v4,v5,v6,v7] z.P N:=by
 intro rr;induction rr with
 | nil=>exactλv5 j j h=>h v5
 | cons q r ih=>intro v5 e hq h;subst e;exact aU z.K.W LM.1 (by rw[LM.2];trivial) (uA z (hq q (.head _)) ⟨hl,ih _ rfl (λy hy=>hq y (.tail _ hy)) h⟩)
theorem K2(hnd:P0 nd=some (.dict (0,0) []))(hq:∀(w:Wc) (z:Z w C0 []) b,z.A.ad 1=some b->(∀ c o,P0 c=some o->o.bR=false->c≠nd->z.P c=some o/\z.h c=none)->Q (.ref w.W) z.P):
  ∀ a,P0 a=none->Calls (m+31) 815 [.ref a,.ref nd] (upd P0 a (.inst 1055 [])) X λv P'=>v=.none/\Q (.ref a) P':=λa ha=>by
 have l9:∀{fs:List (Nat × Va)},fs.length.ble 899=true->fs.length<900:=λh=>dB h;have na:nd≠a:=λq=>by rw[q,ha] at hnd;cases hnd
 refine aB 67 rfl rfl rfl (bQ (aA ..) rfl (dB rfl) ⟨rfl,lz (aA ..) rfl rfl λpd n1 e1 b1 h1 f1=>?_⟩);replace b1:=((Bt.refl (upd P0 a (.inst 1055 [])) a).put _).trans b1;generalize upd (upd _ pd _) a _=P1 at b1 h1 f1 ⊢;refine bQ h1 rfl (dB rfl) (bQ (aA ..) rfl (dB rfl) (bQ (aA ..) rfl (dB rfl) (bQ (aA ..) rfl (dB rfl) (bQ (aA ..) rfl (dB rfl) (lz (aA ..) rfl rfl λsi n2 e2 b2 h2 f2=>?_)))));replace b2:=(((((Bt.refl P1 a).put _).put _).put _).put _).put _ |>.trans b2
 generalize upd (upd _ si _) a _=P2 at b2 h2 f2 ⊢;refine lz h2 rfl rfl λgO n3 e3 b3 h3 f3=>?_;have p2:P2 pd=some (.dict (0,0) []):=b2 _ _ e1 f1;have d2:P2 nd=some (.dict (0,0) []):=b2 _ _ na (b1 _ _ na ((aD na).trans hnd));have x1:nd≠gO:=λq=>by rw[<-q,d2] at n3;cases n3
 have x2:pd≠gO:=λq=>by rw[<-q,p2] at n3;cases n3
 generalize upd (upd _ gO _) a _=P3 at b3 h3 f3 ⊢;refine bQ h3 rfl (dB rfl) (bQ (aA ..) rfl (dB rfl) (lz (aA ..) rfl rfl λgl n4 e4 b4 h4 f4=>?_));replace b4:=((Bt.refl P3 a).put _).put _ |>.trans b4
 generalize upd (upd _ gl _) a _=P4 at b4 h4 f4 ⊢;refine⟨bl,lz h4 rfl rfl λot n5 e5 b5 h5 f5=>?_⟩;generalize upd (upd _ ot _) a _=P5 at b5 h5 f5 ⊢;refine bQ h5 rfl (dB rfl) ?_;let w0:Wc:=⟨a,nd,pd,si,gO,gl,ot,false,none⟩
 generalize hP6:upd P5 a _=P6;have h6:P6 a=some (.inst 1055 (s8 w0 ⟨0,0,0,[]⟩)):=by rw[<-hP6];exact aA ..
 have b6:Bt P5 P6 a:=by rw[<-hP6];exact(Bt.refl P5 a).put _
 clear hP6;have b36:=(b4.trans b5).trans b6;have b06:=(b1.trans b2).trans (b3.trans b36);let z0:=Tg w0 P6 h6 (b36 _ _ e3 f3) (b06 _ _ na ((aD na).trans hnd)) ((b3.trans b36) _ _ e1 p2) x1 x2;refine aU z0.K.W Ec.1 (by rw[Ec.2];exact QA w0 z0.n) (iZ (m:=m+29) z0 ?_);let z1:=z0.iB (z0.n.N+1) z0.n.V z0.n.cv (g5 (eu _)) (eu _);have l1:Le z0 z1:=(Le.refl z0).iB _ _;refine aU z1.K.W oJ.1 (by rw[oJ.2];trivial) (gX (m:=m+1) z1 1 rfl λz2 top l2 ht e he=>nA (m:=m+28) (aA ..) rfl λP7 fd b7 j j h7 j=>⟨rfl,?_⟩)
 have p:Pu z2.P P7:=λc o q=>
  have n:c≠e:=λr=>by rw[r,he] at q;cases q
  b7 c o n ((aD n).trans q)
 let z3:=z2.pu P7 p;have l3:Le z0 z3:=(l1.trans l2).pu P7 p;let w1:Wc:={ w0 with mn:=some e }
 let w2:Wc:={ w1 with ready:=true }
 let z4:=z3.wf' w1 ⟨rfl,rfl,rfl,rfl⟩;let z5:=z4.wf' w2 ⟨rfl,rfl,rfl,rfl⟩;have l5:Le z0 z5:=(l3.wf' w1 ⟨rfl,rfl,rfl,rfl⟩).wf' w2 ⟨rfl,rfl,rfl,rfl⟩;refine bQ (fs:=s8 w0 z3.n) z3.K.W rfl (dB rfl) (bQ (fs:=s8 w1 z4.n) z4.K.W rfl (dB rfl) ?_);have lm:z5.n.md.length<big:=k6 (fu (Nat.le_add_right ..) z5.K.vC) ();refine aG (v:=.ref gO) (fs:=s8 w2 z5.n) z5.K.W rfl rfl rfl (LJ z5.K.gO lm λl hl=>cP (aA ..) (by rw[ef];exact lm) ?_);let z6:=z5.new l (.list (0,0) (z5.n.md.map λe=>.str e.1 0)) hl;refine E8 (m:=m+29) z6 (aA ..) z5.n.md none rfl z5.K.w5 λv5=>⟨rfl,hq w2 z6 top ht λc o q r n=>?_⟩
 have nca:c≠a:=λx=>by rw[x,ha] at q;cases q
 have q6:z0.P c=some o:=b06 _ _ nca ((aD nca).trans q)
 have u0:z0.h c=none:=by
  have c1:c≠pd:=λx=>by rw[<-x,aD nca,aD nca,q] at n1;cases n1
  have c2:c≠gO:=λx=>by rw[<-x,b2 _ _ nca (b1 _ _ nca ((aD nca).trans q))] at n3;cases n3
  exact(aM nca).trans ((aM c2).trans ((aM c1).trans (aM n)))
 exact(((l5.new _ hl).fr c o q6 r (.inl u0)).imp id λx=>x.trans u0)
end
section
noncomputable abbrev Cu:List Bool:=List.replicate 27 false
noncomputable def C4:Cont:=(((C0.new 12 dZ).new 13 dZ).new 15 dZ).new 16 dZ
structure gA{w:Wc}{C:Cont}(z:Z w C [])(L:List (Ad × Tag × PO)):Prop where
 at_:∀ q∈L,z.P q.1=some q.2.2/\q.2.2.bR=false/\z.h q.1=none
 nd:(L.map (·.1)).Nodup
noncomputable def gP(r:Nat->Ad)(a:Ad)(pv:Va)(i:Nat):List (Ad × Tag × PO):=[(r 5,(5,i),.list (0,0) []),(r 4,(4,i),.list (0,0) []),(r 3,(3,i),.dict (0,0) []),(r 2,(2,i),.dict (0,0) []),(r 1,(1,i),.dict (0,0) []),(r 0,(0,i),.dict (0,0) [("thing",.ref a),("parent",pv),("methods",.ref (r 1)),("alone",.ref (r 2)),("consts",.ref (r 3)),("mixed",.ref (r 4)),("front",.ref (r 5))])]
noncomputable def L0(BX:Ad)(b:Int):List (Ad × Tag × PO):=[(BX,(7,99),.list (0,0) [.int b 0,.int 0 0]),(1122,(8,1122),.tab []),(1164,(8,1164),.tab [])]
abbrev Og(P':PH):Prop:=∀ t,t=1122\/t=1164->∃ es,P' t=some (.tab es)
def pQ(w:Wc)(BX RD:Ad):Prop:=∀(m:Nat) (X:XP) (Q:VQ) (N:NP) (z:Z w C4 []) (sc:Ad) (b:Int) (rB rC rM rN:Nat->Ad) (wQ Ae BV BW a1:Ad) (lg:Int),gA z ((RD,(6,99),.dict (0,0) [("B",.ref (rB 0)),("C",.ref (rC 0)),("M",.ref (rM 0)),("N",.ref (rN 0))])::(gP rN BW .none 16++(gP rM BV .none 15++(gP rC Ae (.str "B" 0) 13++(gP rB wQ .none 12++L0 BX b)))))->z.A.ad 12=some wQ->z.A.ad 13=some Ae->z.A.ad 15=some BV->z.A.ad 16=some BW->z.A.ad 1=some a1->(lg=0\/lg=1)->(∀ P',Og P'->Q (.bool true) P')->wpS (m+40) Cu (bV 4 sD) (some (.ref sc)::some (.ref BX)::some (.int lg 0)::some (.ref w.W)::some (.ref wQ)::some (.ref RD)::nN 21) z.P X N Q
noncomputable def w3:Wc × Ad × Ad:=@Classical.epsilon _ ⟨⟨0,0,0,0,0,0,0,false,none⟩,0,0⟩ λx=>¬ pQ x.1 x.2.1 x.2.2
noncomputable def w:Wc:=w3.1
noncomputable def BX:Ad:=w3.2.1
noncomputable def RD:Ad:=w3.2.2
theorem LC(h:pQ w BX RD)(w':Wc)(b r:Ad):pQ w' b r:=Classical.byContradiction λn=>Classical.epsilon_spec (p:=λx:Wc × Ad × Ad=>¬ pQ x.1 x.2.1 x.2.2) ⟨(w',b,r),n⟩ h
end
section
structure iX where
 mt:List (Str × Ent)
 ct:List (Str × Int)
 mx:List Nat
 ah:List Nat
 al:List (Str × Int)
noncomputable def fE(i:Nat):Str:=if i=12 then "B" else if i=13 then "C" else if i=14 then "D" else if i=15 then "M" else "N"
noncomputable def nX(i:Nat):Va:=if i=13 then .str "B" 0 else if i=14 then .str "B" 0 else .none
noncomputable def yp(mt:List (Str × Ent))(tp:Str->Ad):List (Str × Va):=mt.map λq=>(q.1,match q.2 with|none=>.none|some _=>.ref (tp q.1))
noncomputable def KD(l:List (Str × Int)):List (Str × Va):=l.map λq=>(q.1,.int q.2 0)
noncomputable def fS(l:List Nat):List Va:=l.map λj=>.str (fE j) 0
noncomputable def cH(a:Ad)(r:Nat->Ad)(tp:Str->Ad)(d:iX)(i:Nat):Nat->PO
 | 0=>.dict (0,0) [("thing",.ref a),("parent",nX i),("methods",.ref (r 1)),("alone",.ref (r 2)),("consts",.ref (r 3)),("mixed",.ref (r 4)),("front",.ref (r 5))]
 | 1=>.dict (0,0) (yp d.mt tp)
 | 2=>.dict (0,0) (KD d.al)
 | 3=>.dict (0,0) (KD d.ct)
 | 4=>.list (0,0) (fS d.mx)
 | _=>.list (0,0) (fS d.ah)
theorem Gk{p:Nat->Prop}{n:Nat}(a:p 0)(b:∀ k,k<n->p (k+1)):∀ k,k<n+1->p k:=λk=>Nat.casesOn k (λq=>a) λk h=>b k (Nat.lt_of_succ_lt_succ h)
theorem six{p:Nat->Prop}(a:p 0)(b:p 1)(c:p 2)(d:p 3)(e:p 4)(f:p 5):∀ k,k<6->p k:=Gk a (Gk (p:=λk=>p (k+1)) b (Gk (p:=λk=>p (k+2)) c (Gk (p:=λk=>p (k+3)) d (Gk (p:=λk=>p (k+4)) e (Gk (p:=λk=>p (k+5)) f λk h=>absurd h (j0 k))))))
theorem AB{p:Nat->Prop}(a:p 0)(b:∀ k,p (k+1))(k:Nat):p k:=Nat.casesOn k a b
theorem rK{a:Ad}{r:Nat->Ad}{tp:Str->Ad}{d:iX}{i k:Nat}:(cH a r tp d i k).bR=false:=AB (p:=λk=>(cH a r tp d i k).bR=false) rfl (AB rfl (AB rfl (AB rfl (AB rfl λk=>rfl)))) k
structure Lx where
 r:Nat->Nat->Ad
 tp:Nat->Str->Ad
 th:Nat->Ad
 ids:List Nat
 g:eT
 bx:Int × Int
 D:Nat->iX
structure Lw{w:Wc}{C:Cont}(z:Z w C [])(BX RD:Ad)(x:Lx):Prop where
 box:z.P BX=some (.list (0,0) [.int x.bx.1 0,.int x.bx.2 0])
 rows:z.P RD=some (.dict (0,0) (x.ids.map λi=>(fE i,.ref (x.r i 0))))
 row:∀ i∈x.ids,∀ k,k<6->z.P (x.r i k)=some (cH (x.th i) (x.r i) (x.tp i) (x.D i) i k)/\x.g (x.r i k)=some (k,i)
 tup:∀ i∈x.ids,∀ q∈(x.D i).mt,∀ d,q.2=some d->z.P (x.tp i q.1)=some (.tup [.int d.1 0,.str d.2 0])/\x.g (x.tp i q.1)=some (9,99)
 th:∀ i∈x.ids,z.A.ad i=some (x.th i)
 un:∀ c t,x.g c=some t->z.h c=none/\∃ o,z.P c=some o/\o.bR=false
 oB:x.g BX=some (7,99)
 oR:x.g RD=some (6,99)
 tb:∀ t,t=1122\/t=1164->∃ es,z.P t=some (.tab es)/\x.g t=some (8,t)/\∀ k c,es.lookup k=some c->z.P c=some (.code k)/\x.g c=some (9,99)
structure Y(w:Wc)(BX RD:Ad) where
 C:Cont
 z:Z w C []
 x:Lx
 L:Lw z BX RD x
structure Lf(y y':Y w BX RD):Prop where
 fr:∀ c o,y.z.P c=some o->o.bR=false->y.z.h c=none->y.x.g c=none->y'.z.P c=some o/\y'.z.h c=none/\y'.x.g c=none
 fz:∀ c o,y.z.P c=some o->o.bR=false->y.x.g c=some (9,99)->y'.z.P c=some o/\y'.x.g c=some (9,99)
theorem Lf.refl(y:Y w BX RD):Lf y y:=⟨λj j p j q r=>⟨p,q,r⟩,λj j p j q=>⟨p,q⟩⟩
theorem Lf.trans{y y' y'':Y w BX RD}(a:Lf y y')(b:Lf y' y''):Lf y y'':=⟨λc o p l q r=>have s:=a.fr c o p l q r;b.fr c o s.1 l s.2.1 s.2.2,λc o p l q=>have s:=a.fz c o p l q;b.fz c o s.1 l s.2⟩
noncomputable def Y.go(y:Y w BX RD){C':Cont}(z':Z w C' [])(l:Le y.z z'):Y w BX RD:=
 ⟨C',z',y.x,by have f:∀{c t o},y.x.g c=some t->y.z.P c=some o->o.bR=false->z'.P c=some o:=λg p l'=>(l.fr _ _ p l' (.inl (y.L.un _ _ g).1)).1;exact⟨f y.L.oB y.L.box rfl,f y.L.oR y.L.rows rfl,λi hi k hk=>have r:=y.L.row i hi k hk;⟨f r.2 r.1 rK,r.2⟩,λi hi q hq d hd=>have r:=y.L.tup i hi q hq d hd;⟨f r.2 r.1 rfl,r.2⟩,λi hi=>(l.ad i _ (y.L.th i hi)).1,λc t g=>have u:=y.L.un c t g;u.2.elim λo e=>have s:=l.fr c o e.1 e.2 (.inl u.1);⟨s.2.trans u.1,o,s.1,e.2⟩,y.L.oB,y.L.oR,λt ht=>(y.L.tb t ht).imp λes q=>⟨f q.2.1 q.1 rfl,q.2.1,λk c e=>⟨f (q.2.2 k c e).2 (q.2.2 k c e).1 rfl,(q.2.2 k c e).2⟩⟩⟩⟩
theorem Lf.go{y0 y:Y w BX RD}(a:Lf y0 y){C':Cont}(z':Z w C' [])(l:Le y.z z'):Lf y0 (y.go z' l):=a.trans
 ⟨λc o p n q r=>have s:=l.fr c o p n (.inl q);⟨s.1,s.2.trans q,r⟩,λc o p n q=>⟨(l.fr c o p n (.inl (y.L.un _ _ q).1)).1,q⟩⟩
theorem gE{y:Y w BX RD}{c c':Ad}{t t':Tag}(h:y.x.g c=some t)(h':y.x.g c'=some t')(n:t≠t'):c≠c':=λq=>n (by subst q;exact kr (h.symm.trans h'))
noncomputable def Lx.JT(x:Lx)(i:Nat)(d:iX):Lx:={ x with D:=λj=>if j=i then d else x.D j }
noncomputable def Y.w9(y:Y w BX RD){i k:Nat}(hi:i∈y.x.ids)(hk:k<6)(d:iX)(hm:d.mt=(y.x.D i).mt)(hd:∀ k',k'<6->k'≠k->cH (y.x.th i) (y.x.r i) (y.x.tp i) d i k'=cH (y.x.th i) (y.x.r i) (y.x.tp i) (y.x.D i) i k'):Y w BX RD:=
 ⟨y.C,y.z.put (y.x.r i k) (cH (y.x.th i) (y.x.r i) (y.x.tp i) d i k) (y.L.un _ _ (y.L.row i hi k hk).2).1,y.x.JT i d,by
  have R:=y.L.row i hi k hk;have ne:∀{c t},y.x.g c=some t->t≠(k,i)->c≠y.x.r i k:=λg n=>gE g R.2 n;have nk:∀{t:Nat},6<=t->∀{s:Nat},((t,s):Tag)≠(k,i):=λh u q=>absurd hk (by have:=aj Prod.fst q;simp only at this;lia);exact⟨(aD (ne y.L.oB (nk ()))).trans y.L.box,(aD (ne y.L.oR (nk ()))).trans y.L.rows,λj hj k' hk'=>by
    have r:=y.L.row j hj k' hk';refine⟨?_,r.2⟩;show upd y.z.P _ _ (y.x.r j k')=some (cH _ _ _ (if j=i then d else y.x.D j) j k');by_cases q:j=i
    ·rw[q] at r ⊢
     rw[ai rfl];by_cases q':k'=k
     ·rw[q'];exact aA ..
     ·exact((aD (ne r.2 λz=>q' (aj Prod.fst z))).trans r.1).trans (aj some (hd k' hk' q').symm)
    ·rw[aa q];exact(aD (ne r.2 λz=>q (aj Prod.snd z))).trans r.1,λj hj q hq e he=>by
    have hq':q∈(y.x.D j).mt:=by
     have:q∈(if j=i then d else y.x.D j).mt:=hq;by_cases x:j=i
     ·rw[ai x,hm,<-x] at this;exact this
     ·rwa [aa x] at this
    have r:=y.L.tup j hj q hq' e he;exact⟨(aD (ne r.2 (nk ()))).trans r.1,r.2⟩,y.L.th,λc t g=>⟨(y.L.un c t g).1,stand rK (y.L.un c t g).2⟩,y.L.oB,y.L.oR,λt ht=>(y.L.tb t ht).imp λes q=>⟨(aD (ne q.2.1 (nk ()))).trans q.1,q.2.1,λk c e=>⟨(aD (ne (q.2.2 k c e).2 (nk ()))).trans (q.2.2 k c e).1,(q.2.2 k c e).2⟩⟩⟩⟩
theorem Lf.w9{y0 y:Y w BX RD}(a:Lf y0 y){i k:Nat}(hi:i∈y.x.ids)(hk:k<6)(d:iX)(hm:d.mt=(y.x.D i).mt)(hd:∀ k',k'<6->k'≠k->cH (y.x.th i) (y.x.r i) (y.x.tp i) d i k'=cH (y.x.th i) (y.x.r i) (y.x.tp i) (y.x.D i) i k'):Lf y0 (y.w9 hi hk d hm hd):=a.trans
 ⟨λc o p j q r=>⟨(aD λe=>by rw[e,(y.L.row i hi k hk).2] at r;cases r).trans p,q,r⟩,λc o p j q=>⟨(aD (gE q (y.L.row i hi k hk).2 λe=>by have:=aj Prod.fst e;simp only at this;lia)).trans p,q⟩⟩
noncomputable def Y.setM(y:Y w BX RD){i:Nat}(hi:i∈y.x.ids)(mt:List (Str × Ent))(tp:Str->Ad)(g':eT)(hg:∀ c t,y.x.g c=some t->g' c=some t)(hu:∀ c t,g' c=some t->y.z.h c=none/\∃ o,y.z.P c=some o/\o.bR=false)
  (ht:∀ q∈mt,∀ d,q.2=some d->y.z.P (tp q.1)=some (.tup [.int d.1 0,.str d.2 0])/\g' (tp q.1)=some (9,99)):Y w BX RD:=
 ⟨y.C,y.z.put (y.x.r i 1) (.dict (0,0) (yp mt tp)) (y.L.un _ _ (y.L.row i hi 1 ()).2).1,{ y.x with g:=g',tp:=λj=>if j=i then tp else y.x.tp j,D:=λj=>if j=i then { y.x.D i with mt:=mt } else y.x.D j },by
  have R:=y.L.row i hi 1 ();have ne:∀{c t},y.x.g c=some t->t≠(1,i)->c≠y.x.r i 1:=λg n=>gE g R.2 n;have ne':∀{c o},y.z.P c=some (.tup o)->c≠y.x.r i 1:=λp q=>by rw[q,R.1] at p;cases p
  have n9:∀{t s:Nat},6<=t->((t,s):Tag)≠(1,i):=λh q=>absurd (aj Prod.fst q) (by simp only;lia);exact⟨(aD (ne y.L.oB (n9 ()))).trans y.L.box,(aD (ne y.L.oR (n9 ()))).trans y.L.rows,λj hj k' hk'=>by
    have r:=y.L.row j hj k' hk';refine⟨?_,hg _ _ r.2⟩;show upd y.z.P _ _ (y.x.r j k')=some (cH _ _ (if j=i then tp else y.x.tp j) (if j=i then { y.x.D i with mt:=mt } else y.x.D j) j k');by_cases q:j=i
    ·rw[q] at r ⊢
     rw[ai rfl,ai rfl];by_cases q':k'=1
     ·rw[q'];exact aA ..
     ·rw[aD (ne r.2 λz=>q' (aj Prod.fst z)),r.1]
      refine aj some ?_;revert q';exact six (p:=λk=>k≠1->cH (y.x.th i) (y.x.r i) (y.x.tp i) (y.x.D i) i k=cH (y.x.th i) (y.x.r i) tp { y.x.D i with mt:=mt } i k) (λ_=>rfl) (λq'=>absurd rfl q') (λ_=>rfl) (λ_=>rfl) (λ_=>rfl) (λ_=>rfl) k' hk'
    ·rw[aa q,aa q,aD (ne r.2 λz=>q (aj Prod.snd z))];exact r.1,λj hj q hq e he=>by
    show upd y.z.P _ _ ((if j=i then tp else y.x.tp j) q.1)=_/\g' ((if j=i then tp else y.x.tp j) q.1)=_;have hq:q∈(if j=i then { y.x.D i with mt:=mt } else y.x.D j).mt:=hq;by_cases x:j=i
    ·rw[ai x] at hq ⊢
     have r:=ht q hq e he;exact⟨(aD (ne' r.1)).trans r.1,r.2⟩
    ·rw[aa x] at hq ⊢
     have r:=y.L.tup j hj q hq e he;exact⟨(aD (ne' r.1)).trans r.1,hg _ _ r.2⟩,y.L.th,λc t g=>⟨(hu c t g).1,stand rfl (hu c t g).2⟩,hg _ _ y.L.oB,hg _ _ y.L.oR,λt ht=>(y.L.tb t ht).imp λes q=>⟨(aD (ne q.2.1 (n9 ()))).trans q.1,hg _ _ q.2.1,λk c e=>⟨(aD (ne (q.2.2 k c e).2 (n9 ()))).trans (q.2.2 k c e).1,hg _ _ (q.2.2 k c e).2⟩⟩⟩⟩
noncomputable def Y.B9(y:Y w BX RD){t:Ad}(ht:t=1122\/t=1164){es:List (Nat × Ad)}(hes:y.z.P t=some (.tab es)){k:Nat}{c:Ad}(hk:es.lookup k=none)(hc:y.z.P c=none):Y w BX RD:=
 ⟨y.C,(y.z.put t (.tab (es++[(k,c)])) (y.L.un t (8,t) ((y.L.tb t ht).elim λes q=>q.2.1)).1).put c (.code k) (y.z.un hc),{ y.x with g:=eS y.x.g c (9,99) },by
  have T:=y.L.tb t ht;have gt:y.x.g t=some (8,t):=T.elim λes q=>q.2.1
  have gc:y.x.g c=none:=by
   cases q:y.x.g c with
   | none=>rfl
   | some t=>exact(y.L.un c t q).2.elim λo p=>by rw[hc] at p;cases p.1
  have nt:c≠t:=λq=>by rw[q,hes] at hc;cases hc
  have old:∀{a s o},y.x.g a=some s->s≠(8,t)->y.z.P a=some o->upd (upd y.z.P t (.tab (es++[(k,c)]))) c (.code k) a=some o:=λg n p=>(aD λq=>by rw[q,hc] at p;cases p).trans ((aD (gE g gt n)).trans p);have gg:∀{a s},y.x.g a=some s->eS y.x.g c (9,99) a=some s:=λg=>aY gc g;have n8:∀{a b:Nat},a≠8->((a,b):Tag)≠(8,t):=λh q=>h (aj Prod.fst q);exact⟨old y.L.oB (n8 ()) y.L.box,old y.L.oR (n8 ()) y.L.rows,λi hi k hk=>have r:=y.L.row i hi k hk;⟨old r.2 (n8 (by lia)) r.1,gg r.2⟩,λi hi q hq d hd=>have r:=y.L.tup i hi q hq d hd;⟨old r.2 (n8 ()) r.1,gg r.2⟩,y.L.th,λa s g=>by
    by_cases q:a=c
    ·rw[q];exact⟨y.z.un hc,_,aA ..,rfl⟩
    ·have g:=(aM q).symm.trans g
     have u:=y.L.un a s g;exact⟨u.1,stand rfl (stand rfl u.2)⟩,gg y.L.oB,gg y.L.oR,λt' ht'=>by
    by_cases q:t'=t
    ·rw[q]
     refine⟨es++[(k,c)],(aD (gz nt)).trans (aA ..),gg gt,λk' c' e=>?_⟩;obtain⟨es',h1,_,h3⟩:=T;have e1:es'=es:=by injection kr (h1.symm.trans hes)
     rw[List.lookup_append] at e;cases q:es.lookup k' with
     | some c''=>rw[q] at e;have x:=h3 k' c' (by rw[e1,q];exact e);exact⟨old x.2 (n8 ()) x.1,gg x.2⟩
     | none=>
      rw[q] at e;have e:([(k,c)]:List (Nat × Ad)).lookup k'=some c':=e;rw[f6] at e;cases r:k'==k with
      | true=>rw[r] at e;rw[<-kr e,beq_iff_eq.mp r];exact⟨aA ..,bX ..⟩
      | false=>rw[r] at e;cases e
    ·exact(y.L.tb t' ht').imp λes' x=>⟨old x.2.1 (λz=>q (aj Prod.snd z)) x.1,gg x.2.1,λk' c' e=>⟨old (x.2.2 k' c' e).2 (n8 ()) (x.2.2 k' c' e).1,gg (x.2.2 k' c' e).2⟩⟩⟩⟩
theorem Lf.B9{y0 y:Y w BX RD}(a:Lf y0 y){t:Ad}(ht:t=1122\/t=1164){es:List (Nat × Ad)}(hes:y.z.P t=some (.tab es)){k:Nat}{c:Ad}(hk:es.lookup k=none)(hc:y.z.P c=none):Lf y0 (y.B9 ht hes hk hc):=by
 have gt:y.x.g t=some (8,t):=(y.L.tb t ht).elim λes q=>q.2.1;refine a.trans ⟨λx o p j q r=>?_,λx o p j q=>?_⟩
 ·have nc:x≠c:=λe=>by rw[e,hc] at p;cases p
  exact⟨(aD nc).trans ((aD λe=>by rw[e,gt] at r;cases r).trans p),q,(aM nc).trans r⟩
 ·have nc:x≠c:=λe=>by rw[e,hc] at p;cases p
  exact⟨(aD nc).trans ((aD (gE q gt λe=>by cases e)).trans p),(aM nc).trans q⟩
end
section
noncomputable def pN:List Nat:=[12,13,14,15,16]
theorem tW:∀ a∈pN,∀ b∈pN,fE a=fE b->a=b:=⋯
theorem uq{j:Nat}(hj:j∈pN):∀{l:List Nat},(∀ y∈l,y∈pN)->gB (fE j) (fS l)=some (l.contains j):=by
 intro rr;induction rr with
 | nil=>exactλu=>rfl
 | cons y l ih=>
  intro h;show(gB (fE j) (fS l)).map (decide (fE y=fE j)||·)=_;rw[ih λz hz=>h z (.tail _ hz),List.contains_cons,i7];by_cases e:j=y
  ·rw[e,bg,au rfl]
  ·rw[beq_eq_false_iff_ne.mpr e,av λq=>e (tW _ hj _ (h y (.head _)) q.symm)]
theorem bC{j:Nat}{f:Nat->Va}(hu:j∈pN):∀{l:List Nat},(∀ y∈l,y∈pN)->j∈l->aR (fE j) (l.map λi=>(fE i,f i))=some (f j):=by
 intro l;induction l with
 | nil=>exactλu h=>absurd h gk
 | cons y l ih=>
  intro h hj;show(if fE y=fE j then some (f y) else aR (fE j) (l.map λi=>(fE i,f i)))=_;by_cases e:y=j
  ·rw[e,ai rfl]
  ·rw[aa λq=>e (tW _ (h y (.head _)) _ hu q)]
   exact ih (λz hz=>h z (.tail _ hz)) ((ku hj).resolve_left (gz e))
noncomputable def mL(D:Nat->iX)(behind:List Nat)(i:Nat):List Nat:=(D i).ah.reverse++[i]++(D i).mx.reverse.filter λx=>!(D i).ah.contains x&&!behind.contains x
noncomputable def wY(D:Nat->iX)(behind:List Nat)(i:Nat):List Nat:=mL D behind i++behind.filter λx=>!(mL D behind i).contains x
noncomputable def iN(D:Nat->iX)(i:Nat):List Nat:=wY D (if i=13\/i=14 then wY D [] 12 else []) i
structure B3(x:Lx):Prop where
 ids:∀ i∈x.ids,i∈pN
 b:12∈x.ids/\15∈x.ids/\16∈x.ids
 ls:∀ i,(x.D i).mx∈oG/\(x.D i).ah∈oG
theorem jJ:∀ l∈oG,∀ j∈l,j∈pN:=⋯
theorem Eg(l:List Nat):(fS l).reverse=fS l.reverse:=(jl ..).symm
theorem nJ(l l':List Nat):fS l++fS l'=fS (l++l'):=(i8 ..).symm
theorem cQ(l:List Nat):(fS l).length=l.length:=ef ..
theorem A7{step:Va->PH->(Op Va->PH->Prop)->Prop}{guard:PH->Prop}{Ph:PH}{k:List Va->PH->Prop}(f:Nat->Bool)(hg:guard Ph):∀(l acc:List Nat),(∀ j∈l,∀ r:Op Va->PH->Prop,(f j=true->r (some (.str (fE j) 0)) Ph)->(f j=false->r none Ph)->step (.str (fE j) 0) Ph r)->k (fS (acc++l.filter f)) Ph->xZ step guard (fS l) (fS acc) Ph k:=by
 intro rr;induction rr with
 | nil=>exactλacc q h=>by rw[List.filter_nil,jk] at h;exact h
 | cons j l ih=>
  exactλacc hs h=>hs j (.head _) _
   (λe=>⟨hg,by
    show xZ step guard (fS l) (fS acc++[.str (fE j) 0]) Ph k;rw[show fS acc++[.str (fE j) 0]=fS (acc++[j]) from nJ acc [j]];refine ih (acc++[j]) (λy hy=>hs y (.tail _ hy)) ?_
    rwa [List.filter_cons_of_pos e,List.append_cons] at h⟩)
   λe=>⟨hg,ih acc (λy hy=>hs y (.tail _ hy)) (by rwa [List.filter_cons_of_neg (by rw[e];decide)] at h)⟩
section
variable{m:Nat}{X:XP}{Q:VQ}{i:Nat}
theorem Y.row(y:Y w BX RD){k:Nat}(hi:i∈y.x.ids)(hk:k<6):y.z.P (y.x.r i k)=some (cH (y.x.th i) (y.x.r i) (y.x.tp i) (y.x.D i) i k):=(y.L.row i hi k hk).1
noncomputable abbrev VN:List Bool:=[false,false,true,true,true,false]
theorem x6(y:Y w BX RD)(O:B3 y.x)(hi:i∈y.x.ids){b:Ad}{tb:Nat × Nat}{behind:List Nat}{v0:Op Va}{N:NP}(hb:y.z.P b=some (.list tb (fS behind)))(hbu:∀ j∈behind,j∈pN)(hbl:behind.length<20)
  (hq:∀(z':Z w y.C []) e,Le y.z z'->z'.h e=none->Nw y.z e->z'.P e=some (.list (0,0) (fS (wY y.x.D behind i)))->Q (.ref e) z'.P):
  wpS m VN (bV 2 sC) [v0,some (.str (fE i) 0),some (.ref (y.x.r i 0)),some (.ref b),none,none] y.z.P X N (λv P'=>Q v (bJ P')):=by
 have iu:=O.ids i hi;have l2:∀{l:List Nat},l∈oG->(fS l).length<big:=λh=>k6 (fu (gi (cQ _)) (cK _ (gF h))) ();have r0:=y.row hi (k:=0) ();have r4:=y.row hi (k:=4) ();have r5:=y.row hi (k:=5) ()
 refineλq=>aO (v:=.ref (y.x.r i 5)) r0 rfl (zb r5 (l2 (O.ls i).2) λe1 h1=>⟨bl,λe2 h2=>?_⟩)
 have p2:Pu y.z.P (upd (upd y.z.P e1 (.list (0,0) (fS (y.x.D i).ah).reverse)) e2 (.list (0,0) [.str (fE i) 0])):=((Pu.refl _).new _ h1).new _ h2;have f1:=aI (o:=.list (0,0) [.str (fE i) 0]) (aA y.z.P e1 (.list (0,0) (fS (y.x.D i).ah).reverse)) h2;refine Hh f1 (aA ..) ⟨by rw[gh];exact l2 (O.ls i).2,bl⟩ λe3 h3=>?_;have p3:=p2.new (.list (0,0) ((fS (y.x.D i).ah).reverse++[.str (fE i) 0])) h3
 refineλq=>aO (v:=.ref (y.x.r i 4)) (p3 _ _ r0) rfl (zb (p3 _ _ r4) (l2 (O.ls i).1) λe4 h4=>?_)
 have p4:=p3.new (.list (0,0) (fS (y.x.D i).mx).reverse) h4;have rl:(fS (y.x.D i).mx).reverse=fS (y.x.D i).mx.reverse:=Eg _
 refineλq=>Fq (aA ..) (by rw[gh];exact l2 (O.ls i).1) ?_
 rw[rl];rw[rl] at p4;refine A7 (λx=>!(y.x.D i).ah.contains x&&!behind.contains x) (λq=>dG (aA ..)) (y.x.D i).mx.reverse [] (λj hj r t f=>?_) ?_
 ·have ju:=jJ _ (O.ls i).1 j (d8 hj)
  refineλq=>aO (v:=.ref (y.x.r i 5)) (p4 _ _ r0) rfl λq=>bW (b:=!(y.x.D i).ah.contains j) (by rw[RC (dG (p4 _ _ r5)),uq ju (jJ _ (O.ls i).2)];rfl) ?_
  cases c1:(y.x.D i).ah.contains j with
  | true=>exact bf rfl (f (by show(!(y.x.D i).ah.contains j&&!behind.contains j)=false;rw[c1];rfl))
  | false=>
   refine bt rfl λq=>bW (b:=!behind.contains j) (by rw[RC (dG (p4 _ _ hb)),uq ju hbu];rfl) ?_;cases c2:behind.contains j with
   | true=>exact bf rfl (f (by show(!(y.x.D i).ah.contains j&&!behind.contains j)=false;rw[c1,c2];rfl))
   | false=>exact bt rfl (t (by show(!(y.x.D i).ah.contains j&&!behind.contains j)=true;rw[c1,c2];rfl))
 rw[kq]
 refineλe5 h5=>?_
 have p5:=p4.new (.list (0,0) (fS ((y.x.D i).mx.reverse.filter λx=>!(y.x.D i).ah.contains x&&!behind.contains x))) h5;have e3':(fS (y.x.D i).ah).reverse++[.str (fE i) 0]=fS ((y.x.D i).ah.reverse++[i]):=by rw[Eg];exact nJ _ [i]
 have la:=cK _ (gF (O.ls i).2);have lm:=cK _ (gF (O.ls i).1);have lf:=jh (λx=>!(y.x.D i).ah.contains x&&!behind.contains x) (y.x.D i).mx.reverse;rw[gh] at lf;refine Hh (aI (aI (aA ..) h4) h5) (aA ..) ⟨by rw[e3',cQ,gu,gh,jg];exact k6 (j8 la) (),by rw[cQ];exact k6 (fu lf lm) ()⟩ λe6 h6=>?_;have eo:(fS (y.x.D i).ah).reverse++[.str (fE i) 0]++fS ((y.x.D i).mx.reverse.filter λx=>!(y.x.D i).ah.contains x&&!behind.contains x)=fS (mL y.x.D behind i):=by rw[e3',nJ];rfl
 rw[eo];have p6:=p5.new (.list (0,0) (fS (mL y.x.D behind i))) h6;let z7:=(y.z.pu _ p6).drop;have l7:Le y.z z7:=((Le.refl y.z).pu _ p6).drop;have b7:z7.P b=some (.list tb (fS behind)):=cS (p6 _ _ hb) rfl;have o7:z7.P e6=some (.list (0,0) (fS (mL y.x.D behind i))):=cS (aA ..) rfl
 have ou:∀ j∈mL y.x.D behind i,j∈pN:=λj hj=>by
  rcases cy hj with h|h
  ·rcases cy h with h|h
   ·exact jJ _ (O.ls i).2 j (d8 h)
   ·rw[cu h];exact iu
  ·exact jJ _ (O.ls i).1 j (d8 (d9 h).1)
 have ol:(mL y.x.D behind i).length<big:=by unfold mL;rw[gu,gu,gh,jg];exact k6 (Nat.add_le_add (j8 la) (fu lf lm)) ()
 refineλq=>Fq b7 (by rw[cQ];exact gy hbl ()) (A7 (λx=>!(mL y.x.D behind i).contains x) (λq=>dG b7) behind [] (λj hj r t f=>?_) ?_)
 ·refineλq=>bW (b:=!(mL y.x.D behind i).contains j) (aj (Option.map (λx=>!x)) ((RC (dG o7)).trans (uq (hbu j hj) ou))) ?_
  cases c:(mL y.x.D behind i).contains j with
  | true=>exact bf rfl (f (by show(!(mL y.x.D behind i).contains j)=false;rw[c];rfl))
  | false=>exact bt rfl (t (by show(!(mL y.x.D behind i).contains j)=true;rw[c];rfl))
 rw[kq]
 refineλe7 h7=>Hh (aI o7 h7) (aA ..) ⟨by rw[cQ];exact ol,by rw[cQ];exact k6 (jh _ _) (gy hbl ())⟩ λe8 h8=>?_
 let z8:=z7.new e7 (.list (0,0) (fS (behind.filter λx=>!(mL y.x.D behind i).contains x))) h7;have l8:Le y.z z8:=l7.new _ h7;exact hq (z8.new e8 _ h8).drop e8 (l8.new _ h8).drop (z8.un h8) ((Nw.none z8 h8).of l8) (cS ((aA ..).trans (aj (λv=>some (PO.list (0,0) v)) (nJ _ _))) rfl)
theorem IS{D:Nat->iX}{behind:List Nat}(hi:i∈pN)(hm:∀ j∈(D i).mx,j∈pN)(ha:∀ j∈(D i).ah,j∈pN)(hb:∀ j∈behind,j∈pN):∀ j∈wY D behind i,j∈pN:=λj hj=>by
 rcases cy hj with h|h
 ·rcases cy h with h|h
  ·rcases cy h with h|h
   ·exact ha j (d8 h)
   ·rw[cu h];exact hi
  ·exact hm j (d8 (d9 h).1)
 ·exact hb j (d9 h).1
theorem qm{D:Nat->iX}{behind:List Nat}(hm:(D i).mx∈oG)(ha:(D i).ah∈oG):(wY D behind i).length<=5+behind.length:=by
 have h1:=cK _ (gF hm);have h2:=cK _ (gF ha);have h3:=jh (λx=>!(D i).ah.contains x&&!behind.contains x) (D i).mx.reverse;have h4:=jh (λx=>!(mL D behind i).contains x) behind;rw[gh] at h3;unfold wY;rw[gu];have:(mL D behind i).length<=5:=by unfold mL;rw[gu,gu,gh,jg];lia
 lia
theorem kQ(y:Y w BX RD)(O:B3 y.x)(hi:i∈y.x.ids)(hq:∀(z':Z w y.C []) e,Le y.z z'->z'.h e=none->Nw y.z e->z'.P e=some (.list (0,0) (fS (iN y.x.D i)))->Q (.ref e) z'.P):Calls (m+2) 1099 [.ref RD,.str (fE i) 0] y.z.P X Q:=by
 have iu:=O.ids i hi
 have base:∀(y:Y w BX RD) (O:B3 y.x) (j:Nat) (hj:j∈y.x.ids) (X:XP) (Q:VQ) (m:Nat),nX j=.none->(∀(z':Z w y.C []) e,Le y.z z'->z'.h e=none->Nw y.z e->z'.P e=some (.list (0,0) (fS (wY y.x.D [] j)))->Q (.ref e) z'.P)->Calls (m+1) 1099 [.ref RD,.str (fE j) 0] y.z.P X Q:=λy O j hj X Q m hp hq=>by
  refine fU 91 rfl rfl rfl λq=>aO (v:=.ref (y.x.r j 0)) y.L.rows (bC (O.ids j hj) O.ids hj) ?_;let y1:=y.go y.z.drop (Le.refl y.z).drop
  refineλq=>aO (v:=.none) (y1.row (i:=j) hj (k:=0) ()) (by show some (nX j)=_;rw[hp]) ⟨rfl,bl,λb hb=>?_⟩
  let z2:=(y1.z.new b (.list (0,0) []) hb).drop;have l2:Le y.z z2:=((Le.refl y.z).drop.new _ hb).drop;exact x6 (y.go z2 l2) O hj (b:=b) (behind:=[]) (cS (aA ..) rfl) (λq h=>absurd h gk) () λz' e l u n h=>hq z' e (l2.trans l) u (n.of l2) h
 by_cases hp:i=13\/i=14
 ·unfold iN at hq
  rw[ai hp] at hq;refine fU 91 rfl rfl rfl λq=>aO (v:=.ref (y.x.r i 0)) y.L.rows (bC iu O.ids hi) ?_;let y1:=y.go y.z.drop (Le.refl y.z).drop;have ps:nX i=.str "B" 0:=by rcases hp with rfl|rfl<;>rfl
  refineλq=>aO (v:=.str "B" 0) (y1.row (i:=i) hi (k:=0) ()) (by show some (nX i)=_;rw[ps]) ⟨rfl,λq=>aO (v:=.str "B" 0) (y1.row (i:=i) hi (k:=0) ()) (by show some (nX i)=_;rw[ps]) (base y1 O 12 O.b.1 _ _ m rfl λz' b l u n h=>?_)⟩
  let z2:=z'.drop;have l2:Le y.z z2:=((Le.refl y.z).drop.trans l).drop;have lm:=qm (i:=12) (behind:=[]) (O.ls 12).1 (O.ls 12).2;exact x6 (y.go z2 l2) O hi (b:=b) (behind:=wY y.x.D [] 12) (cS h rfl) (IS ⋯ (jJ _ (O.ls 12).1) (jJ _ (O.ls 12).2) λq h=>absurd h gk) (k6 lm ()) λz' e l u n h=>hq z' e (l2.trans l) u (n.of l2) h
 ·unfold iN at hq
  rw[aa hp] at hq;refine base y O i hi X Q (m+1) ?_ hq;unfold nX;rw[aa λh=>hp (.inl h),aa λh=>hp (.inr h)]
end
end
theorem Oz:∀ l∈oG,∀ j∈l,j=15\/j=16:=⋯
theorem vf{x:Lx}(O:B3 x){i:Nat}(hi:i∈x.ids){behind:List Nat}(hb:∀ j∈behind,j∈x.ids):∀ j∈wY x.D behind i,j∈x.ids:=λj hj=>by
 have mn:∀ l∈oG,∀ j∈l,j∈x.ids:=λl hl j hj=>by
  rcases Oz l hl j hj with rfl|rfl
  ·exact O.b.2.1
  ·exact O.b.2.2
 rcases cy hj with h|h
 ·rcases cy h with h|h
  ·rcases cy h with h|h
   ·exact mn _ (O.ls i).2 j (d8 h)
   ·rw[cu h];exact hi
  ·exact mn _ (O.ls i).1 j (d8 (d9 h).1)
 ·exact hb j (d9 h).1
theorem mJ{x:Lx}(O:B3 x){i:Nat}(hi:i∈x.ids):∀ j∈iN x.D i,j∈x.ids:=by
 unfold iN;by_cases h:i=13\/i=14
 ·rw[ai h];exact vf O hi (vf O O.b.1 λq h=>absurd h gk)
 ·rw[aa h];exact vf O hi λq h=>absurd h gk
theorem mK{x:Lx}(O:B3 x)(i:Nat):(iN x.D i).length<=10:=by
 have h1:=qm (i:=12) (behind:=[]) (O.ls 12).1 (O.ls 12).2;rw[j3] at h1;unfold iN;by_cases h:i=13\/i=14
 ·rw[ai h]
  have h2:=qm (i:=i) (behind:=wY x.D [] 12) (O.ls i).1 (O.ls i).2;lia
 ·rw[aa h]
  have h2:=qm (i:=i) (behind:=[]) (O.ls i).1 (O.ls i).2;rw[j3] at h2;lia
theorem rR{k:Str}{tp:Str->Ad}:∀{mt:List (Str × Ent)},aR k (yp mt tp)=(mt.lookup k).map λd=>match d with|none=>.none|some _=>.ref (tp k):=by
 intro rr;induction rr with
 | nil=>exact rfl
 | cons q mt ih=>
  show(if q.1=k then some _ else aR k (yp mt tp))=_;by_cases e:q.1=k
  ·subst e;rw[ai rfl,f6,bg];rfl
  ·rw[aa e,f6,beq_eq_false_iff_ne.mpr (gz e)];exact ih
noncomputable def findD(D:Nat->iX)(x:Str):List Nat->Ent
 | []=>none
 | i::l=>match (D i).mt.lookup x with
  | some d=>d
  | none=>findD D x l
theorem yP{D:Nat->iX}{x:Str}{i:Nat}{l:List Nat}:findD D x (i::l)=match (D i).mt.lookup x with
  | some d=>d
  | none=>findD D x l:=rfl
noncomputable def kU(D:Nat->iX)(x:Str):List Nat->Op Int
 | []=>none
 | i::l=>match (D i).ct.lookup x with
  | some d=>some d
  | none=>kU D x l
theorem HH{D:Nat->iX}{x:Str}{i:Nat}{l:List Nat}:kU D x (i::l)=match (D i).ct.lookup x with
  | some d=>some d
  | none=>kU D x l:=rfl
noncomputable def iH(D:Nat->iX)(x:Str)(i:Nat):Op Int:=match (D i).al.lookup x with
 | some d=>some d
 | none=>if i=13\/i=14 then(D 12).al.lookup x else none
noncomputable def qS(y:Y w BX RD)(v:Va):Ent->Prop
 | none=>v=.none
 | some d=>∃ e,v=.ref e/\y.z.P e=some (.tup [.int d.1 0,.str d.2 0])/\y.x.g e=some (9,99)
noncomputable def QJ:Op Int->Va
 | none=>.str "error NameError" 0
 | some v=>.int v 0
noncomputable def UA:Op Int->Va
 | none=>.none
 | some v=>.int v 0
section
variable{m:Nat}{X:XP}{Q:VQ}{i:Nat}
theorem yR{k:Str}{l:List (Str × Int)}:aR k (KD l)=(l.lookup k).map λv=>.int v 0:=Cv
theorem CD(y:Y w BX RD)(O:B3 y.x){N:NP}{v1:Op Va}{e:Ad}{o:PO}(he:y.z.P e=some o):∀(l:List Nat) (v3:Op Va),(∀ j∈l,j∈y.x.ids)->(∀ v,qS y v (findD y.x.D x l)->Q v y.z.P)->(∀ v3,findD y.x.D x l=none->(∀ v,qS y v none->Q v y.z.P)->N [some (.ref RD),v1,some (.str x 0),v3,none] y.z.P)->cM (λv l P' k=>wpS m (fF 5) (match qI with|.seq (.loop _ _ b) _=>b|_=>.skip) (l.set 3 (some v)) (kD (fF 5) 3 P') X k Q) (λP'=>P' e=some o) (fS l) [some (.ref RD),v1,some (.str x 0),v3,none] y.z.P N:=by
 intro rr;induction rr with
 | nil=>exactλv3 u hq h=>h v3 rfl hq
 | cons j l ih=>
  intro v3 hl hq h;have hj:=hl j (.head _);have r0:=y.row hj (k:=0) ();have r1:=y.row hj (k:=1) ()
  refineλu=>aO (v:=.ref (y.x.r j 0)) y.L.rows (bC (O.ids j hj) O.ids hj) λu=>aO (v:=.ref (y.x.r j 1)) r0 rfl λu=>bW (inD (dG r1)) ?_
  rw[rR];cases q:(y.x.D j).mt.lookup x with
  | none=>refine⟨he,ih _ (λy hy=>hl y (.tail _ hy)) (λv hv=>hq v (by rw[yP];rw[q];exact hv)) λv3 e1=>h v3 (by rw[yP];rw[q];exact e1)⟩
  | some d=>
   have hq:∀ v,qS y v d->Q v y.z.P:=λv hv=>hq v (by rw[yP];rw[q];exact hv)
   refineλu=>aO (v:=.ref (y.x.r j 0)) y.L.rows (bC (O.ids j hj) O.ids hj) λu=>aO (v:=.ref (y.x.r j 1)) r0 rfl λu=>?_
   cases d with
   | none=>exact aO (v:=.none) r1 (by rw[rR,q];rfl) (hq _ rfl)
   | some d=>have t:=y.L.tup j hj _ (zk q) d rfl;exact aO (v:=.ref (y.x.tp j x)) r1 (by rw[rR,q];rfl) (hq _ ⟨_,rfl,t⟩)
theorem r9(y:Y w BX RD)(O:B3 y.x)(hi:i∈y.x.ids)(hq:∀(z':Z w y.C []) v (l:Le y.z z'),qS (y.go z' l) v (findD y.x.D x (iN y.x.D i))->Q v z'.P):Calls (m+3) 1106 [.ref RD,.str (fE i) 0,.str x 0] y.z.P X Q:=by refine aB 92 rfl rfl rfl (kQ (m:=m) y O hi λz1 e l1 u n h=>cP h (by rw[cQ];exact k6 (mK O i) ()) ?_);exact CD (m:=m+2) (y.go z1 l1) O h (iN y.x.D i) none (mJ O hi) (λv hv=>hq z1 v l1 hv) λv3 q hv=>hv .none rfl
theorem Ct(y:Y w BX RD)(O:B3 y.x){N:NP}{v1:Op Va}{e:Ad}{o:PO}(he:y.z.P e=some o):∀(l:List Nat) (v3:Op Va),(∀ j∈l,j∈y.x.ids)->Q (QJ (kU y.x.D x l)) y.z.P->(∀ v3,Q (QJ none) y.z.P->N [some (.ref RD),v1,some (.str x 0),v3,none] y.z.P)->cM (λv l P' k=>wpS m (fF 5) (match qH with|.seq (.loop _ _ b) _=>b|_=>.skip) (l.set 3 (some v)) (kD (fF 5) 3 P') X k Q) (λP'=>P' e=some o) (fS l) [some (.ref RD),v1,some (.str x 0),v3,none] y.z.P N:=by
 intro rr;induction rr with
 | nil=>exactλv3 u hq h=>h v3 hq
 | cons j l ih=>
  intro v3 hl hq h;have hj:=hl j (.head _);have r0:=y.row hj (k:=0) ();have r3:=y.row hj (k:=3) ()
  refineλu=>aO (v:=.ref (y.x.r j 0)) y.L.rows (bC (O.ids j hj) O.ids hj) λu=>aO (v:=.ref (y.x.r j 3)) r0 rfl λu=>bW (inD (dG r3)) ?_
  rw[yR];rw[HH] at hq;cases q:(y.x.D j).ct.lookup x with
  | none=>rw[q] at hq;exact⟨he,ih _ (λy hy=>hl y (.tail _ hy)) hq h⟩
  | some d=>
   rw[q] at hq
   exactλu=>aO (v:=.ref (y.x.r j 0)) y.L.rows (bC (O.ids j hj) O.ids hj) λu=>aO (v:=.ref (y.x.r j 3)) r0 rfl λu=>aO (v:=.int d 0) r3 (by rw[yR,q];rfl) hq
theorem As(y:Y w BX RD)(O:B3 y.x)(hi:i∈y.x.ids)(hq:∀(z':Z w y.C []),Le y.z z'->Q (QJ (kU y.x.D x (iN y.x.D i))) z'.P):Calls (m+3) 1155 [.ref RD,.str (fE i) 0,.str x 0] y.z.P X Q:=by refine aB 99 rfl rfl rfl (kQ (m:=m) y O hi λz1 e l1 u n h=>cP h (by rw[cQ];exact k6 (mK O i) ()) ?_);exact Ct (m:=m+2) (y.go z1 l1) O h (iN y.x.D i) none (mJ O hi) (hq z1 l1) λv3 h=>h
theorem uo(y:Y w BX RD)(O:B3 y.x){j:Nat}(hj:j∈y.x.ids){k:NP}(h1:∀ v,(y.x.D j).al.lookup x=some v->Q (.int v 0) y.z.P)(h2:(y.x.D j).al.lookup x=none->k [some (.ref RD),some (nX j),some (.str x 0)] y.z.P):
  wpS m [false,false,false] (match qG with|.seq (.s9 _ b) _=>b|_=>.skip) [some (.ref RD),some (.str (fE j) 0),some (.str x 0)] y.z.P X k Q:=by
 have r0:=y.row hj (k:=0) ();have r2:=y.row hj (k:=2) ()
 refineλu=>aO (v:=.ref (y.x.r j 0)) y.L.rows (bC (O.ids j hj) O.ids hj) λu=>aO (v:=.ref (y.x.r j 2)) r0 rfl λu=>bW (inD (dG r2)) ?_
 rw[yR];cases q:(y.x.D j).al.lookup x with
 | none=>exactλu=>aO (v:=.ref (y.x.r j 0)) y.L.rows (bC (O.ids j hj) O.ids hj) λu=>aO (v:=nX j) r0 rfl (h2 q)
 | some d=>exactλu=>aO (v:=.ref (y.x.r j 0)) y.L.rows (bC (O.ids j hj) O.ids hj) λu=>aO (v:=.ref (y.x.r j 2)) r0 rfl λu=>aO (v:=.int d 0) r2 (by rw[yR,q];rfl) (h1 d q)
theorem Ar(y:Y w BX RD)(O:B3 y.x)(hi:i∈y.x.ids)(hq:Q (UA (iH y.x.D x i)) y.z.P):Calls (m+1) 1162 [.ref RD,.str (fE i) 0,.str x 0] y.z.P X Q:=by
 unfold iH at hq;refine aB 100 rfl rfl rfl ⟨3,rfl,uo (m:=m) y O hi (λv e=>by rw[e] at hq;exact hq) λe=>?_⟩;rw[e] at hq;by_cases hp:i=13\/i=14
 ·have ps:nX i=.str "B" 0:=by rcases hp with rfl|rfl<;>rfl
  have hq:Q (UA ((y.x.D 12).al.lookup x)) y.z.P:=by have:=hq;simp only[ai hp] at this;exact this
  rw[ps];exact⟨rfl,uo (m:=m) (j:=12) y O O.b.1 (λv e=>by rw[e] at hq;exact hq) λe=>by rw[e] at hq;exact⟨rfl,hq⟩⟩
 ·have hq:Q .none y.z.P:=by have:=hq;simp only[aa hp] at this;exact this
  have ps:nX i=.none:=by unfold nX;rw[aa λh=>hp (.inl h),aa λh=>hp (.inr h)]
  rw[ps];exact⟨rfl,hq⟩
end
section
noncomputable def Tz(P:PH)(v:Va):Ent->Prop
 | none=>v=.none
 | some d=>∃ e,v=.ref e/\P e=some (.tup [.int d.1 0,.str d.2 0])
section
variable{m:Nat}{X:XP}{Q:VQ}{i:Nat}{P0:PH}
theorem yC{C:Cont}{z:Z w C []}{v:Va}{o:Ent}(hv:GX z v o)(hq:∀ P' u,Pu z.P P'->Tz P' u o->Q u P'):Calls (m+1) 1113 [v] z.P X Q:=by
 refine aB 93 rfl rfl rfl ?_;cases o with
 | none=>have hv:v=.none:=hv;subst hv;exact⟨rfl,hq _ _ (Pu.refl _) rfl⟩
 | some d=>obtain⟨e,r,rfl,h,_⟩:=hv;exact⟨rfl,aG (v:=.int d.1 0) h rfl rfl rfl (aG (v:=.str d.2 0) h rfl rfl rfl ⟨bl,λf hf=>hq _ _ ((Pu.refl _).new _ hf) ⟨f,rfl,aA ..⟩⟩)⟩
structure G1(P0 P':PH)(r:Nat->Ad)(a:Ad)(par:Va):Prop where
 pu:Pu P0 P'
 fr:∀ k,k<6->P0 (r k)=none
 M9:P' (r 0)=some (.dict (0,0) [("thing",.ref a),("parent",par),("methods",.ref (r 1)),("alone",.ref (r 2)),("consts",.ref (r 3)),("mixed",.ref (r 4)),("front",.ref (r 5))])
 Vz:P' (r 1)=some (.dict (0,0) [])
 at2:P' (r 2)=some (.dict (0,0) [])
 VA:P' (r 3)=some (.dict (0,0) [])
 VB:P' (r 4)=some (.list (0,0) [])
 VC:P' (r 5)=some (.list (0,0) [])
 ne:[r 5,r 4,r 3,r 2,r 1,r 0].Nodup
noncomputable def r6(a b c d e f:Ad):Nat->Ad
 | 0=>a
 | 1=>b
 | 2=>c
 | 3=>d
 | 4=>e
 | _=>f
theorem xJ{a:Ad}{pv:Va}(hq:∀ P' r,G1 P0 P' r a pv->Q (.ref (r 0)) P'):Calls (m+1) 1094 [.ref a,pv] P0 X Q:=by
 refine aB 90 rfl rfl rfl ⟨⟨⋯,(),()⟩,λd hd f1 h1 f2 h2 f3 h3=>⟨bl,λf4 h4=>⟨bl,λf5 h5=>⟨rfl,?_,?_⟩⟩⟩⟩
 ·exact aI (aI (aI (aI (aI (aA ..) h1) h2) h3) h4) h5
 have s0:∀ y∈[d],upd P0 d (.dict (0,0) []) y≠none:=λy hy=>by rw[cu hy,aA];intro q;cases q
 have st:∀{Ph:PH} {f:Ad} {o:PO} {l:List Ad},(∀ y∈l,Ph y≠none)->∀ y∈f::l,upd Ph f o y≠none:=λ{Ph f o l} s y hy=>by
  by_cases q:y=f
  ·rw[q,aA];intro z;cases z
  ·rw[aD q];exact s y ((ku hy).resolve_left q)
 have s1:=st (f:=f1) (o:=.dict (0,0) []) s0;have s2:=st (f:=f2) (o:=.dict (0,0) []) s1;have s3:=st (f:=f3) (o:=.dict (0,0) []) s2;have s4:=st (f:=f4) (o:=.list (0,0) []) s3;have nd:∀{Ph:PH} {f:Ad} {l:List Ad},Ph f=none->(∀ y∈l,Ph y≠none)->f∉l:=λh s m=>s _ m h;have n1:=nd h1 s0;have n2:=nd h2 s1;have n3:=nd h3 s2;have n4:=nd h4 s3;have n5:=nd h5 s4;have p0:=(Pu.refl P0).new (.dict (0,0) []) hd;have p1:=p0.new (.dict (0,0) []) h1;have p2:=p1.new (.dict (0,0) []) h2;have p3:=p2.new (.dict (0,0) []) h3;have p4:=p3.new (.list (0,0) []) h4;have p5:=p4.new (.list (0,0) []) h5;have hnd:[f5,f4,f3,f2,f1,d].Nodup:=dh ⟨n5,dh ⟨n4,dh ⟨n3,dh ⟨n2,dh ⟨n1,dh ⟨gk,List.nodup_nil⟩⟩⟩⟩⟩⟩;have nf:∀{f:Ad} {l:List Ad},f∉l->d∈l->f≠d:=λn m q=>n (by rw[q];exact m);refine hq _ (r6 d f1 f2 f3 f4 f5) ⟨p5.put _ hd,λk hk=>?_,aA ..,?_,?_,?_,?_,?_,hnd⟩
 ·exact six (p:=λk=>P0 (r6 d f1 f2 f3 f4 f5 k)=none) hd (p0.un h1) (p1.un h2) (p2.un h3) (p3.un h4) (p4.un h5) k hk
 ·exact(aD (nf n1 (.head _))).trans (aI (aI (aI (aI (aA ..) h2) h3) h4) h5)
 ·exact(aD (nf n2 (.tail _ (.head _)))).trans (aI (aI (aI (aA ..) h3) h4) h5)
 ·exact(aD (nf n3 (.tail _ (.tail _ (.head _))))).trans (aI (aI (aA ..) h4) h5)
 ·exact(aD (nf n4 (.tail _ (.tail _ (.tail _ (.head _)))))).trans (aI (aA ..) h5)
 ·exact(aD (nf n5 (.tail _ (.tail _ (.tail _ (.tail _ (.head _))))))).trans (aA ..)
noncomputable def Y.jZ(y:Y w BX RD)(b:Int × Int):Y w BX RD:=
 ⟨y.C,y.z.put BX (.list (0,0) [.int b.1 0,.int b.2 0]) (y.L.un _ _ y.L.oB).1,{ y.x with bx:=b },by have ne:∀{c t},y.x.g c=some t->t≠(7,99)->c≠BX:=λg n=>gE g y.L.oB n;exact⟨aA ..,(aD (ne y.L.oR ())).trans y.L.rows,λi hi k hk=>have r:=y.L.row i hi k hk;⟨(aD (ne r.2 λq=>absurd hk (by rw[show k=7 from aj Prod.fst q];decide))).trans r.1,r.2⟩,λi hi q hq d hd=>have r:=y.L.tup i hi q hq d hd;⟨(aD (ne r.2 ())).trans r.1,r.2⟩,y.L.th,λc t g=>⟨(y.L.un c t g).1,stand rfl (y.L.un c t g).2⟩,y.L.oB,y.L.oR,λt ht=>(y.L.tb t ht).imp λes q=>⟨(aD (ne q.2.1 eY)).trans q.1,q.2.1,λk c e=>⟨(aD (ne (q.2.2 k c e).2 ())).trans (q.2.2 k c e).1,(q.2.2 k c e).2⟩⟩⟩⟩
theorem Lf.jZ{y0 y:Y w BX RD}(a:Lf y0 y)(b:Int × Int):Lf y0 (y.jZ b):=a.trans
 ⟨λc o p j q r=>⟨(aD λe=>by rw[e,y.L.oB] at r;cases r).trans p,q,r⟩,λc o p j q=>⟨(aD (gE q y.L.oB λe=>by cases e)).trans p,q⟩⟩
theorem uB(y:Y w BX RD){n:Int}(hn:0<n/\n<2^60)(hb:0<=y.x.bx.2/\y.x.bx.2<2^40)(hq:∀(d:Int) (b:Int),0<=d->d<n->Q (.int d 0) (y.jZ (b,y.x.bx.2+1)).z.P):Calls (m+1) 1080 [.ref BX,.int n 0] y.z.P X Q:=by
 refine aB 88 rfl rfl rfl (cC (v:=.int y.x.bx.2 0) y.L.box () () rfl (JX y.L.box ⟨(),bl,bl⟩ ?_));let y1:=y.jZ (y.x.bx.1,y.x.bx.2+1);refine cC (v:=.int y.x.bx.1 0) y1.L.box () () rfl ?_;have bn:y1.x.bx.2.natAbs<2^60:=by show(y.x.bx.2+1).natAbs<_;lia
 by_cases h0:y.x.bx.1=0
 ·refine bt (au h0) (cC (v:=.int y1.x.bx.2 0) y1.L.box () () rfl ⟨bn,cC (v:=.int y1.x.bx.2 0) y1.L.box () () rfl ⟨bn,cC (v:=.int y1.x.bx.2 0) y1.L.box () () rfl ⟨(),hn.1,hq _ _ (Int.emod_nonneg _ (by lia)) (Int.emod_lt_of_pos _ hn.1)⟩⟩⟩)
 ·refine bf (av h0) (cC (v:=.int y.x.bx.1 0) y1.L.box () () rfl ⟨hn.1,cC (v:=.int y.x.bx.1 0) y1.L.box () () rfl ⟨hn,JX y1.L.box ⟨(),bl,bl⟩ ?_⟩⟩)
  have e:((y1.jZ (y.x.bx.1/n,y.x.bx.2+1)).z.P)=(y.jZ (y.x.bx.1/n,y.x.bx.2+1)).z.P:=MY ..;show Q _ (y1.jZ (y.x.bx.1/n,y.x.bx.2+1)).z.P;rw[e];exact hq _ _ (Int.emod_nonneg _ (by lia)) (Int.emod_lt_of_pos _ hn.1)
theorem fW{C:Cont}{f:Ad}{k:Nat}{vs:List Va}(hf:P0 f=some (.lam k vs))(h:Calls m f [] P0 (λe P'=>∃ z':Z w C [],P'=z'.P/\xA z' e/\Q (.str "error NameError" 0) z'.P) (λq P'=>Q (.str "done" 0) P')):Calls (m+1) 1087 [.ref f] P0 X Q:=by refine aB 89 rfl rfl rfl ⟨.inr ⟨rfl,k,vs,hf⟩,Calls.mono h (f7 _) (λe P' hx=>?_) λq q hv=>hv⟩;obtain⟨z',rfl,⟨fs,t,num,b,fd,u,h1,h2,h3,h4⟩,hq⟩:=hx;refine⟨⟨fs,h1⟩,bl,QX h1 ⋯ h2 rfl (aG (v:=.ref b) h3 rfl rfl rfl (aG (v:=.str "NameError" 0) (z'.at_ h4 nn) rfl rfl rfl ⟨⟨bl,bl⟩,?_⟩))⟩;have e2:("error ":Str)++("NameError":Str)="error NameError":=⋯;rw[e2];exact hq
end
end
section
noncomputable def oX(mt:List (Str × Ent)):List (Str × Int):=mt.map λq=>(q.1,match q.2 with|some d=>d.1|none=>0)
noncomputable def tB(C:Cont)(i:Nat):List (Str × Int):=match cV i with|some o=>oX (C.c o).mt|none=>[]
noncomputable def rowOf(C:Cont)(i:Nat):iX:=⟨(C.c i).mt,(C.c i).ct,(C.c i).mx,(C.c i).ah,tB C i⟩
structure Inv(y:Y w BX RD):Prop where
 O:B3 y.x
 D:∀ i∈y.x.ids,y.x.D i=rowOf y.C i
 V:eO y.C
 L:sF y.C
 b:(∃ c,y.z.A.ad 1=some c)/\(∃ c,y.z.A.ad 3=some c)
 al:∀ i o,cV i=some o->∀ q∈(y.C.c o).mt,∃ t,q.2=some (t,("public":Str))
 lk:∀ i p,par i=some p->(cV p).isSome=true->y.C.lk i=true->y.C.lk p=true
 HY:14∉y.x.ids->y.z.A.ad 14=none/\(y.C.c 14)=dZ
 bx:0<=y.x.bx.2
structure Nx(k:Nat)(y y':Y w BX RD):Prop where
 I:Inv y'
 f:Lf y y'
 ids:y'.x.ids=y.x.ids
 bx:y'.x.bx.2<=y.x.bx.2+k
 A:∀ i a,y.z.A.ad i=some a->y'.z.A.ad i=some a
theorem pick(l:List Str)(d:Int)(h0:0<=d)(h1:d<l.length):∃ s∈l,(l.map λs=>Value.str s 0)[d.toNat]?=some (.str s 0):=by
 have h:d.toNat<l.length:=by lia
 exact⟨l[d.toNat],j9 h,by rw[gj,f9 h];rfl⟩
noncomputable def Vu(e:Ad):Ent->Va
 | none=>.none
 | some _=>.ref e
theorem Qn{x:Str}{d:Ent}{e:Ad}{tp:Str->Ad}{mt:List (Str × Ent)}(nd:(mt.map (·.1)).Nodup):cU x (Vu e d) (yp mt tp)=yp (cR x d mt) λy=>if y=x then e else tp y:=
 qA (g:=λq=>match q.2 with|none=>.none|some _=>.ref (tp q.1)) (g':=λq=>match q.2 with|none=>.none|some _=>.ref (if q.1=x then e else tp q.1)) nd (by cases d with
  | none=>rfl
  | some d=>exact aj Value.ref (ai rfl)) λq j n=>by
  obtain⟨k,o⟩:=q;cases o with
  | none=>rfl
  | some d=>exact aj Value.ref (aa n)
variable{i:Nat}
noncomputable def Y.w7(y:Y w BX RD)(hi:i∈y.x.ids)(x:Str)(d:Ent)(e:Ad)(nd:((y.x.D i).mt.map (·.1)).Nodup)(he:∀ dd,d=some dd->y.z.P e=some (.tup [.int dd.1 0,.str dd.2 0])/\y.z.h e=none/\(y.x.g e=none\/y.x.g e=some (9,99))):Y w BX RD:=
 y.setM hi (cR x d (y.x.D i).mt) (λk=>if k=x then e else y.x.tp i k) (λc=>if c=e/\d.isSome=true then some (9,99) else y.x.g c)
  (λc t q=>by
   by_cases z:c=e/\d.isSome=true
   ·rw[ai z]
    obtain⟨dd,hd⟩:=cz z.2;rcases (he dd hd).2.2 with g|g
    ·rw[z.1,g] at q;cases q
    ·rw[z.1,g] at q;exact q
   ·rw[aa z];exact q)
  (λc t q=>by
   by_cases z:c=e/\d.isSome=true
   ·obtain⟨dd,hd⟩:=cz z.2
    rw[z.1];exact⟨(he dd hd).2.1,_,(he dd hd).1,rfl⟩
   ·exact y.L.un c t ((aa z).symm.trans q))
  λq hq dd hd=>by
   rcases nL nd hq with h|⟨h,n⟩
   ·have h1:q.1=x:=by rw[h]
    have h2:d=some dd:=by rw[<-hd,h]
    rw[ai h1];exact⟨(he dd h2).1,ai ⟨rfl,by rw[h2];rfl⟩⟩
   ·rw[aa n]
    have t:=y.L.tup i hi q h dd hd;refine⟨t.1,?_⟩;by_cases z:y.x.tp i q.1=e/\d.isSome=true
    ·exact ai z
    ·exact(aa z).trans t.2
theorem Y.zB(y:Y w BX RD)(hi:i∈y.x.ids)(x:Str)(d:Ent)(e:Ad)(nd:((y.x.D i).mt.map (·.1)).Nodup)(he):(y.w7 hi x d e nd he).z.P=upd y.z.P (y.x.r i 1) (.dict (0,0) (cU x (Vu e d) (yp (y.x.D i).mt (y.x.tp i)))):=by rw[Qn nd];rfl
theorem Lf.w7{y0 y:Y w BX RD}(a:Lf y0 y)(hi:i∈y.x.ids)(x:Str)(d:Ent)(e:Ad)(nd:((y.x.D i).mt.map (·.1)).Nodup)(he)(hn:d.isSome=true->∀ o,y0.z.P e=some o->o.bR=false->y0.z.h e=none->y0.x.g e=none->False):Lf y0 (y.w7 hi x d e nd he):=
 have R:=(y.L.row i hi 1 ()).2
 ⟨λc o p n q r=>
  have s:=a.fr c o p n q r
  ⟨(aD λz=>by rw[z,R] at s;cases s.2.2).trans s.1,s.2.1,(aa λz=>by obtain⟨z1,z2⟩:=z;subst z1;exact hn z2 o p n q r).trans s.2.2⟩,λc o p n q=>
  have s:=a.fz c o p n q
  ⟨(aD (gE s.2 R λz=>by cases z)).trans s.1,by
   show(if c=e/\d.isSome=true then some (9,99) else y.x.g c)=_;by_cases z:c=e/\d.isSome=true
   ·exact ai z
   ·rw[aa z];exact s.2⟩⟩
end
variable{i:Nat}
theorem QD{a:Int}:a<=a+((0:Nat):Int):=Int.le_of_eq (Int.add_zero a).symm
theorem UT{a b:Int}{k l:Nat}(h:b<=a+k)(q:k<=l):b<=a+l:=jt h (Int.add_le_add_left (Int.ofNat_le.mpr q) a)
theorem TZ{a b c:Int}{k l:Nat}(h:b<=a+k)(q:c<=b+l):c<=a+(k+l:Nat):=jt q (jt (Int.add_le_add_right h l) (Int.le_of_eq (Int.add_assoc a k l)))
theorem Q4{a b c d:Int}{k:Nat}(h:b<=a+k)(q:a<c)(r:c+k<=d):b<d:=Int.lt_of_le_of_lt h (Int.lt_of_lt_of_le (Int.add_lt_add_right q k) r)
theorem VY{d:Int}(h:0<=d)(q:d<2):d=0\/d=1:=by obtain⟨n,rfl⟩:=Int.eq_ofNat_of_zero_le h;exact(by decide:∀ n:Nat,n<2->(n:Int)=0\/(n:Int)=1) n (Int.ofNat_lt.mp q)
theorem VZ{d:Int}(h:0<=d)(q:d<4):d=0\/d=1\/d=2\/d=3:=by obtain⟨n,rfl⟩:=Int.eq_ofNat_of_zero_le h;exact(by decide:∀ n:Nat,n<4->(n:Int)=0\/(n:Int)=1\/(n:Int)=2\/(n:Int)=3) n (Int.ofNat_lt.mp q)
theorem Wk{i:Nat}(h:i=12\/i=13\/i=14):12<=i:=by rcases h with h|h|h<;>rw[h]<;>decide
theorem Nx.refl{y:Y w BX RD}(I:Inv y):Nx 0 y y:=⟨I,.refl y,rfl,QD,λq q h=>h⟩
theorem Nx.trans{k l:Nat}{y y' y'':Y w BX RD}(a:Nx k y y')(b:Nx l y' y''):Nx (k+l) y y'':=⟨b.I,a.f.trans b.f,b.ids.trans a.ids,TZ a.bx b.bx,λi c h=>b.A i c (a.A i c h)⟩
theorem Nx.le{k l:Nat}{y y':Y w BX RD}(a:Nx k y y')(h:k<=l):Nx l y y':=⟨a.I,a.f,a.ids,UT a.bx h,a.A⟩
theorem Oj{y y':Y w BX RD}(h:y'.C.ex 14=y.C.ex 14)(e:y.z.A.ad 14=none):y'.z.A.ad 14=none:=by
 have h1:=y.z.K.ex 14 ();have h2:=y'.z.K.ex 14 ();rw[e] at h1;rw[h,<-h1] at h2;cases q:y'.z.A.ad 14 with
 | none=>rfl
 | some a=>rw[q] at h2;cases h2
theorem Inv.go{y:Y w BX RD}(I:Inv y)(z':Z w y.C [])(l:Le y.z z'):Inv (y.go z' l):=⟨I.O,I.D,I.V,I.L,⟨I.b.1.imp λc h=>(l.ad 1 c h).1,I.b.2.imp λc h=>(l.ad 3 c h).1⟩,I.al,I.lk,λh=>⟨Oj (y:=y) (y':=y.go z' l) rfl (I.HY h).1,(I.HY h).2⟩,I.bx⟩
theorem Nx.go{y0 y:Y w BX RD}{k:Nat}(a:Nx k y0 y)(z':Z w y.C [])(l:Le y.z z'):Nx k y0 (y.go z' l):=⟨a.I.go z' l,a.f.go z' l,a.ids,a.bx,λi c h=>(l.ad i c (a.A i c h)).1⟩
theorem Nx.box{y0 y:Y w BX RD}{k:Nat}(a:Nx k y0 y)(b:Int):Nx (k+1) y0 (y.jZ (b,y.x.bx.2+1)):=⟨⟨⟨a.I.O.ids,a.I.O.b,a.I.O.ls⟩,a.I.D,a.I.V,a.I.L,a.I.b,a.I.al,a.I.lk,a.I.HY,jt a.I.bx (UT (k:=0) (l:=1) QD (j5 1))⟩,a.f.jZ _,a.ids,TZ a.bx (l:=1) (eu _),a.A⟩
theorem CX{j o:Nat}(hi:i∈pN)(ho:cV j=some o):o≠i:=λq=>by have h:=(jU.of ho).ao;rw[q] at h;have:∀ i∈pN,gW i=none:=⋯;rw[this i hi] at h;cases h
theorem Inv.cont{y y':Y w BX RD}(I:Inv y)(hi:i∈y.x.ids){o:Co}(hC:y'.C=y.C.upd i o)(yQ:y'.x.ids=y.x.ids)(hD:y'.x.D=λj=>if j=i then { y.x.D i with mt:=o.mt,ct:=o.ct,mx:=o.mx,ah:=o.ah } else y.x.D j)(ho:o.mx∈oG/\o.ah∈oG)(hA:∀ j a,y.z.A.ad j=some a->y'.z.A.ad j=some a)(hb:0<=y'.x.bx.2):Inv y':=by
 have iu:=I.O.ids i hi;have co:∀{j o'},cV j=some o'->y'.C.c o'=y.C.c o':=λh=>by rw[hC];exact dH (CX iu h)
 have lk:y'.C.lk=y.C.lk:=by rw[hC];rfl
 have ex:y'.C.ex=y.C.ex:=by rw[hC];rfl
 refine⟨⟨by rw[yQ];exact I.O.ids,by rw[yQ];exact I.O.b,λj=>?_⟩,λj hj=>?_,λj o' h l=>?_,λj l=>I.L j (by rwa [lk] at l),⟨I.b.1.imp λc h=>hA 1 c h,I.b.2.imp λc h=>hA 3 c h⟩,λj o' h q hq=>I.al j o' h q (by rwa [co h] at hq),λj p h1 h2 h3=>by rw[lk] at h3 ⊢;exact I.lk j p h1 h2 h3,λh=>?_,hb⟩
 ·rw[hD]
  dsimp only;by_cases q:j=i
  ·rw[ai q];exact ho
  ·rw[aa q];exact I.O.ls j
 ·rw[yQ] at hj
  rw[hD]
  have al:tB y'.C j=tB y.C j:=by
   unfold tB;cases q:cV j with
   | none=>rfl
   | some o'=>dsimp only;rw[co q]
  dsimp only;unfold rowOf;rw[al];by_cases q:j=i
  ·rw[ai q,q,show y'.C.c i=o by rw[hC];exact fZ]
   have:=I.D i hi;rw[this];rfl
  ·rw[aa q,show y'.C.c j=y.C.c j by rw[hC];exact dH q]
   exact I.D j hj
 ·rw[ex,co h];rw[lk] at l;exact I.V j o' h l
 ·rw[yQ] at h
  have d:=I.HY h;refine⟨Oj (by rw[ex]) d.1,?_⟩;rw[hC,dH λq=>h (by rw[q];exact hi)];exact d.2
theorem Y.xy(y:Y w BX RD){e:Ad}(h:y.z.P e=none):y.x.g e=none:=by
 cases q:y.x.g e with
 | none=>rfl
 | some t=>exact(y.L.un e t q).2.elim λo p=>by rw[h] at p;cases p.1
section
variable{m:Nat}{X:XP}{Q:VQ}
theorem draw(y:Y w BX RD)(I:Inv y)(hb:y.x.bx.2<2^30)(l:List Str){n:Int}(hn:n=l.length)(hl:0<l.length/\l.length<100){lv:List Va}(hv:lv=l.map λs=>.str s 0){e:Ad}(he:y.z.P e=none)(hq:∀ d s y',s∈l->Nx 1 y y'->y'.z.P e=some (.list (0,0) lv)->(0<=d/\d<2^62)->lv[d.toNat]?=some (.str s 0)->Q (.int d 0) y'.z.P):Calls (m+1) 1080 [.ref BX,.int n 0] (upd y.z.P e (.list (0,0) lv)) X Q:=by let y1:=y.go (y.z.new e (.list (0,0) lv) he) ((Le.refl y.z).new _ he);have n1:Nx 0 y y1:=(Nx.refl I).go _ _;subst hn;refine uB (m:=m) y1 ⟨Int.ofNat_lt.mpr hl.1,iz (Int.ofNat_lt.mpr hl.2) ()⟩ ⟨I.bx,iz hb ()⟩ λd b h0 h1=>?_;have n2:=n1.box b;have fe:=((Lf.refl y1).jZ (b,y1.x.bx.2+1)).fr e _ (aA ..) rfl (y.z.un he) (y.xy he);obtain⟨s,hs,hg⟩:=pick l d h0 h1;exact hq d s _ hs n2 fe.1 ⟨h0,iz h1 (iz (Int.ofNat_lt.mpr hl.2) ())⟩ (by rw[hv];exact hg)
theorem xQ(y:Y w BX RD)(I:Inv y)(hb:y.x.bx.2<2^30){n:Int}(hn:0<n/\n<100)(hq:∀ d:Int,0<=d->d<n->∀ y',Nx 1 y y'->Q (.int d 0) y'.z.P):Calls (m+1) 1080 [.ref BX,.int n 0] y.z.P X Q:=uB (m:=m) y ⟨hn.1,iz hn.2 ()⟩ ⟨I.bx,iz hb ()⟩ λd b h0 h1=>hq d h0 h1 _ ((Nx.refl I).box b)
end
section
variable{m:Nat}{X:XP}{Q:VQ}
theorem Dp(h:i∈pN)(h16:i≠16):¬ (i<12\/15<i/\i<19):=by have:∀ i∈pN,i≠16->¬ (i<12\/15<i/\i<19):=⋯;exact this i h h16
theorem Nx.w7{k:Nat}{y0 y:Y w BX RD}(a:Nx k y0 y)(hi:i∈y.x.ids){d:Ent}{e:Ad}(z':Z w (y.C.setM i (cR x d (y.C.c i).mt)) [])(l:Le y.z z')(y1:Y w BX RD)(e1:y1=y.go z' l)(nd)(he)(hn:d.isSome=true->∀ o,y0.z.P e=some o->o.bR=false->y0.z.h e=none->y0.x.g e=none->False):
  Nx k y0 ((y.go z' l).w7 (i:=i) hi x d e nd he):=by
 have D:=a.I.D i hi;refine⟨a.I.cont hi (o:={ y.C.c i with mt:=cR x d (y.C.c i).mt }) rfl rfl ?_ ⟨(y.z.K.wf.u5 i ?_).1,(y.z.K.wf.u5 i ?_).2⟩ (λj c h=>(l.ad j c h).1) a.I.bx,(a.f.go z' l).w7 hi x d e nd he hn,a.ids,a.bx,λj c h=>(l.ad j c (a.A j c h)).1⟩
 ·show(λj=>if j=i then { y.x.D i with mt:=cR x d (y.x.D i).mt } else y.x.D j)=_
  rw[D];rfl
 all_goals exact(by decide +kernel:∀ i∈pN,12<=i) i (a.I.O.ids i hi)
theorem oA(y:Y w BX RD)(I:Inv y)(hb:y.x.bx.2<2^29)(hi:i∈y.x.ids)(h16:i≠16){t:Int}(hq:∀ y',Nx 2 y y'->Q (.bool true) y'.z.P):Calls (m+4) 1120 [.ref BX,.ref w.W,.ref RD,.str (fE i) 0,.int t 0] y.z.P X Q:=by
 refine aB 94 rfl rfl rfl ⟨bl,λe1 he1=>draw (m:=m+2) y I (by lia) ["x","y","z"] rfl () rfl he1 λd1 s y1 hs n1 f1 h1 g1=>cC f1 h1.1 h1.2 g1 ⟨bl,λe2 uX=>draw (m:=m+2) y1 n1.I (by have:=n1.bx;lia) ["public","private","protected"] rfl () rfl uX λd2 s2 y2 j n2 f2 h2 g2=>cC f2 h2.1 h2.2 g2 ⟨bl,λe he=>nZ (aA ..) ⟨rfl,?_⟩⟩⟩⟩;let y3:=y2.go (y2.z.new e (.tup [.str s 0,.str s2 0]) he) ((Le.refl y2.z).new _ he);have n3:Nx 2 y y3:=(n1.trans n2).go _ _;have kN:i∈y3.x.ids:=by rw[n3.ids];exact hi
 have iu:=I.O.ids i hi;have sk:s∈bH:=(by decide +kernel:∀ s∈(["x","y","z"]:List Str),s∈bH) s hs;have rw1:=y3.L.rows;have r0:=y3.row kN (k:=0) ();have th:=y3.L.th i kN
 refineλj=>aO (v:=.ref (y3.x.r i 0)) rw1 (bC iu n3.I.O.ids kN) λj=>aO (v:=.ref (y3.x.th i)) r0 rfl λj=>aO (v:=.ref (y3.x.r i 0)) rw1 (bC iu n3.I.O.ids kN) λj=>aO (v:=.ref (y3.x.th i)) r0 rfl (tE (m:=m+1) (Q:=λv P'=>Calls (m+3) 551 [.ref w.W,.ref (y3.x.th i),v] P' X λj P'=>wpS (m+3) (fF 10) (bV 2 m9) (some (.ref BX)::some (.ref w.W)::some (.ref RD)::some (.str (fE i) 0)::some (.int t 0)::some (.str s 0)::some (.str s2 0)::nN 3) P' X (λj P'=>Q .none P') Q) λP4 f tt p4 hf h4=>?_)
 let z4:=y3.z.pu P4 p4;have l4:Le y3.z z4:=(Le.refl y3.z).pu P4 p4;have hs4:z4.P f=some (.inst 256 (tK (some (t,s2)) ⟨s,y3.x.th i,tt⟩)):=h4;refine Aq (m:=m+1) z4 th (Dp iu h16) sk hs4 (y3.z.un hf) ?_;let z5:=z4.mS th (Dp iu h16) sk hs4 (y3.z.un hf);have l5:Le y3.z z5:=l4.mS th (Dp iu h16) sk hs4 (y3.z.un hf) (Nw.none y3.z hf);refine⟨bl,λg hg=>?_⟩;let y5:=y3.go z5 l5;let z6:=z5.new g (.tup [.int t 0,.str s2 0]) hg;have l6:Le y3.z z6:=l5.new _ hg;let y6:=y3.go z6 l6;have nd:((y6.x.D i).mt.map (·.1)).Nodup:=by show((y3.x.D i).mt.map (·.1)).Nodup;rw[n3.I.D i kN];exact(y3.z.K.wf.nd i).1
 have g6:y6.x.g g=none:=y5.xy hg;have he:∀ dd,some (t,s2)=some dd->y6.z.P g=some (.tup [.int dd.1 0,.str dd.2 0])/\y6.z.h g=none/\(y6.x.g g=none\/y6.x.g g=some (9,99)):=λdd h=>by obtain rfl:=kr h;exact⟨aA ..,z5.un hg,.inl g6⟩
 have n7:=n3.w7 kN (d:=some (t,s2)) (e:=g) (x:=s) z6 l6 _ rfl nd he λj o p n q r=>by have:=(n3.f.go z5 l5).fr g o p n q r;rw[show(y3.go z5 l5).z.P g=none from hg] at this;cases this.1
 refineλj=>aO (v:=.ref (y3.x.r i 0)) y6.L.rows (bC iu n3.I.O.ids kN) λj=>aO (v:=.ref (y3.x.r i 1)) (y6.row (i:=i) kN (k:=0) ()) rfl (cX (y6.row (i:=i) kN (k:=1) ()) ?_ ?_)
 ·show(yp (y3.x.D i).mt (y3.x.tp i)).length<big
  rw[n3.I.D i kN];exact k6 (fu (gi (ef ..)) (y3.z.K.wf.Jd i)) ()
 ·exact Eq.mp (aj (Q (.bool true)) (Y.zB (y3.go z6 l6) kN s (some (t,s2)) g nd he)) (hq _ n7)
end
section
variable{m:Nat}{X:XP}{Q:VQ}{j:Nat}
theorem yS(o:Co)(way:Bool)(j:Nat)(h:(o.X way).contains j=true):o.inc way j=o:=by unfold Co.inc;rw[h];rfl
theorem tM(o:Co)(way:Bool)(j:Nat)(h:(o.X way).contains j=false):o.inc way j=o.wo way j:=by unfold Co.inc;rw[h];rfl
theorem vA(y:Y w BX RD)(I:Inv y)(hi:i∈y.x.ids)(hu:i=12\/i=13\/i=14)(hj:j∈([15,16]:List Nat))(way:Bool)(z':Z w (y.C.upd i ((y.C.c i).inc way j)) [])(l:Le y.z z'){v1 v4:Op Va}(hq:∀ y',Nx 0 y y'->Q (.bool true) y'.z.P):
  wpS m (fF 11) (bV 2 qJ) (some (.ref BX)::v1::some (.ref RD)::some (.str (fE i) 0)::v4::some (.str (fE j) 0)::some (.int (if way then 1 else 0) 0)::nN 4) z'.P X (λu P'=>Q .none P') Q:=by
 let y1:=y.go z' l;have iu:=I.O.ids i hi;have ju:j∈pN:=(by decide +kernel:∀ j∈([15,16]:List Nat),j∈pN) j hj;have D:=I.D i hi;have u5:=y.z.K.wf.u5 i (Wk hu);have mono:∀ j a,y.z.A.ad j=some a->z'.A.ad j=some a:=λj a h=>(l.ad j a h).1
 refineλu=>aO (v:=.ref (y.x.r i 0)) y1.L.rows (bC iu I.O.ids hi) ⟨bl,λe he=>?_⟩
 let z2:=z'.new e (.list (0,0) [.str "mixed" 0,.str "front" 0]) he;have l2:Le y.z z2:=l.new _ he;let y2:=y.go z2 l2;have r0:=y2.row (i:=i) hi (k:=0) ();have lst:∀{k:Nat},k<6->y2.z.P (y.x.r i k)=some (cH (y.x.th i) (y.x.r i) (y.x.tp i) (y.x.D i) i k):=λh=>y2.row (i:=i) hi h;have cmm:∀{o:Co},y.C.upd i o=y.C.upd i o:=rfl;cases way with
 | false=>
  refine cC (v:=.str "mixed" 0) (aA ..) () () rfl λu=>aO (v:=.ref (y.x.r i 4)) r0 rfl λu=>bW (b:=!(y.x.D i).mx.contains j) (aj (Option.map (λb=>!b)) ((RC (dG (lst (k:=4) ()))).trans (uq ju (jJ _ (by rw[D];exact u5.1))))) ?_;cases c:(y.x.D i).mx.contains j with
  | true=>
   have c':((y.C.c i).X false).contains j=true:=by rw[D] at c;exact c
   refine hq y2 ⟨I.cont (y':=y2) hi (o:=(y.C.c i).inc false j) rfl rfl ?_ ?_ (λj a h=>(l2.ad j a h).1) I.bx,(Lf.refl y).go z2 l2,rfl,QD,λj a h=>(l2.ad j a h).1⟩
   ·rw[yS _ _ _ c']
    funext k;show y.x.D k=_;by_cases q:k=i
    ·rw[ai q,q,D];rfl
    ·rw[aa q]
   ·rw[yS _ _ _ c'];exact u5
  | false=>
   have c':((y.C.c i).X false).contains j=false:=by rw[D] at c;exact c
   have ln:(fS (y.x.D i).mx).length<big:=by rw[cQ,D];exact k6 (cK _ (gF u5.1)) ()
   have hk:∀ k',k'<6->k'≠4->cH (y2.x.th i) (y2.x.r i) (y2.x.tp i) { y.x.D i with mx:=(y.x.D i).mx++[j] } i k'=cH (y2.x.th i) (y2.x.r i) (y2.x.tp i) (y2.x.D i) i k':=six (λ_=>rfl) (λ_=>rfl) (λ_=>rfl) (λ_=>rfl) (λn=>absurd rfl n) (λ_=>rfl);let y3:=y2.w9 (i:=i) (k:=4) hi () { y.x.D i with mx:=(y.x.D i).mx++[j] } rfl hk;have n3:Nx 0 y y3:=⟨I.cont (y':=y3) hi (o:=(y.C.c i).inc false j) rfl rfl (by rw[tM _ _ _ c'];show(λk=>if k=i then { y.x.D i with mx:=(y.x.D i).mx++[j] } else y.x.D k)=_;rw[D];rfl) (by rw[tM _ _ _ c'];exact⟨tG _ u5.1 j hj c',u5.2⟩) (λj a h=>(l2.ad j a h).1) I.bx,((Lf.refl y).go z2 l2).w9 (i:=i) (k:=4) hi () { y.x.D i with mx:=(y.x.D i).mx++[j] } rfl hk,rfl,QD,λj a h=>(l2.ad j a h).1⟩
   refine⟨sj (lst (k:=4) ()),Cb (lst (k:=4) ()) ln ?_⟩;refine Eq.mp (aj (Q (.bool true)) ?_) (hq y3 n3);show upd y2.z.P (y.x.r i 4) (.list (0,0) (fS ((y.x.D i).mx++[j])))=upd y2.z.P (y.x.r i 4) (.list (0,0) (fS (y.x.D i).mx++[.str (fE j) 0]));rw[<-nJ];rfl
 | true=>
  refine cC (v:=.str "front" 0) (aA ..) () () rfl λu=>aO (v:=.ref (y.x.r i 5)) r0 rfl λu=>bW (b:=!(y.x.D i).ah.contains j) (aj (Option.map (λb=>!b)) ((RC (dG (lst (k:=5) ()))).trans (uq ju (jJ _ (by rw[D];exact u5.2))))) ?_;cases c:(y.x.D i).ah.contains j with
  | true=>
   have c':((y.C.c i).X true).contains j=true:=by rw[D] at c;exact c
   refine hq y2 ⟨I.cont (y':=y2) hi (o:=(y.C.c i).inc true j) rfl rfl ?_ ?_ (λj a h=>(l2.ad j a h).1) I.bx,(Lf.refl y).go z2 l2,rfl,QD,λj a h=>(l2.ad j a h).1⟩
   ·rw[yS _ _ _ c']
    funext k;show y.x.D k=_;by_cases q:k=i
    ·rw[ai q,q,D];rfl
    ·rw[aa q]
   ·rw[yS _ _ _ c'];exact u5
  | false=>
   have c':((y.C.c i).X true).contains j=false:=by rw[D] at c;exact c
   have ln:(fS (y.x.D i).ah).length<big:=by rw[cQ,D];exact k6 (cK _ (gF u5.2)) ()
   have hk:∀ k',k'<6->k'≠5->cH (y2.x.th i) (y2.x.r i) (y2.x.tp i) { y.x.D i with ah:=(y.x.D i).ah++[j] } i k'=cH (y2.x.th i) (y2.x.r i) (y2.x.tp i) (y2.x.D i) i k':=six (λ_=>rfl) (λ_=>rfl) (λ_=>rfl) (λ_=>rfl) (λ_=>rfl) (λn=>absurd rfl n);let y3:=y2.w9 (i:=i) (k:=5) hi () { y.x.D i with ah:=(y.x.D i).ah++[j] } rfl hk;have n3:Nx 0 y y3:=⟨I.cont (y':=y3) hi (o:=(y.C.c i).inc true j) rfl rfl (by rw[tM _ _ _ c'];show(λk=>if k=i then { y.x.D i with ah:=(y.x.D i).ah++[j] } else y.x.D k)=_;rw[D];rfl) (by rw[tM _ _ _ c'];exact⟨u5.1,tG _ u5.2 j hj c'⟩) (λj a h=>(l2.ad j a h).1) I.bx,((Lf.refl y).go z2 l2).w9 (i:=i) (k:=5) hi () { y.x.D i with ah:=(y.x.D i).ah++[j] } rfl hk,rfl,QD,λj a h=>(l2.ad j a h).1⟩
   refine⟨sj (lst (k:=5) ()),Cb (lst (k:=5) ()) ln ?_⟩;refine Eq.mp (aj (Q (.bool true)) ?_) (hq y3 n3);show upd y2.z.P (y.x.r i 5) (.list (0,0) (fS ((y.x.D i).ah++[j])))=upd y2.z.P (y.x.r i 5) (.list (0,0) (fS (y.x.D i).ah++[.str (fE j) 0]));rw[<-nJ];rfl
theorem Au(y:Y w BX RD)(I:Inv y)(hb:y.x.bx.2<2^29)(hi:i∈y.x.ids)(hu:i=12\/i=13\/i=14){t:Va}(hq:∀ y',Nx 2 y y'->Q (.bool true) y'.z.P):Calls (m+7) 1134 [.ref BX,.ref w.W,.ref RD,.str (fE i) 0,t] y.z.P X Q:=by
 refine aB 96 rfl rfl rfl ⟨bl,λe1 he1=>draw (m:=m+5) y I (iz hb ()) ["M","N"] rfl () rfl he1 λd1 s y1 hs n1 f1 h1 g1=>cC f1 h1.1 h1.2 g1 (xQ (m:=m+5) y1 n1.I (Q4 n1.bx hb ()) (n:=2) () λd2 a0 a1 y2 n2=>⟨bl,λe he=>nZ (aA ..) ⟨rfl,?_⟩⟩)⟩;obtain⟨j,hj,rfl⟩:∃ j,j∈([15,16]:List Nat)/\s=fE j:=by
  rcases ku hs with h|h
  ·exact⟨15,(),h⟩
  ·exact⟨16,(),cu h⟩
 let y3:=y2.go (y2.z.new e (.tup [.str (fE j) 0,.int d2 0]) he) ((Le.refl y2.z).new _ he);have n3:Nx 2 y y3:=(n1.trans n2).go _ _;have kN:i∈y3.x.ids:=by rw[n3.ids];exact hi
 have iu:=I.O.ids i hi
 have hj3:j∈y3.x.ids:=by
  rcases ku hj with h|h
  ·rw[h];exact n3.I.O.b.2.1
  ·rw[cu h];exact n3.I.O.b.2.2
 have ju:=n3.I.O.ids j hj3;have ri:=y3.row kN (k:=0) ();have rj:=y3.row hj3 (k:=0) ();by_cases hd:d2=0
 ·subst hd
  refine(λq=>aO (v:=.ref (y3.x.r i 0)) y3.L.rows (bC iu n3.I.O.ids kN) λq=>aO (v:=.ref (y3.x.th i)) ri rfl λq=>aO (v:=.ref (y3.x.r j 0)) y3.L.rows (bC ju n3.I.O.ids hj3) λq=>aO (v:=.ref (y3.x.th j)) rj rfl ⟨bl,λf hf=>?_⟩);let z4:=y3.z.new f (.list (0,0) [.ref (y3.x.th j)]) hf;exact qW (m:=m) z4 (y3.L.th i kN) hu (y3.L.th j hj3) hj (aA ..) (y3.z.un hf) λz5 l5 q=>vA (m:=m+6) y3 n3.I kN hu hj false z5 (((Le.refl y3.z).new _ hf).trans l5) λy' n=>hq y' (n3.trans n)
 ·have hd1:d2=1:=(VY a0 a1).resolve_left hd
  subst hd1;refine(λq=>aO (v:=.ref (y3.x.r i 0)) y3.L.rows (bC iu n3.I.O.ids kN) λq=>aO (v:=.ref (y3.x.th i)) ri rfl λq=>aO (v:=.ref (y3.x.r j 0)) y3.L.rows (bC ju n3.I.O.ids hj3) λq=>aO (v:=.ref (y3.x.th j)) rj rfl ⟨bl,λf hf=>?_⟩);let z4:=y3.z.new f (.list (0,0) [.ref (y3.x.th j)]) hf;exact qX (m:=m) z4 (y3.L.th i kN) hu (y3.L.th j hj3) hj (aA ..) (y3.z.un hf) λz5 l5 q=>vA (m:=m+6) y3 n3.I kN hu hj true z5 (((Le.refl y3.z).new _ hf).trans l5) λy' n=>hq y' (n3.trans n)
end
theorem JG(k:Nat):∀(C:Cont) (i j:Nat),(∃ o,cV i=some o)->gW j=none->(cW k C i).ex j=C.ex j:=by
 induction k with
 | zero=>exactλy y y y y=>rfl
 | succ k ih=>
  intro C i j ⟨o,ho⟩ hj;rw[iR];by_cases l:C.lk i=true
  ·rw[ai l]
  ·rw[aa l,ho]
   have n:j≠o:=λq=>by rw[q,(jU.of ho).ao] at hj;cases hj
   refine(aa n).trans ?_;cases q:par i with
   | none=>rfl
   | some p=>exact ih C p j ((jU.of ho).up p q) hj
theorem Bp(k:Nat):∀(C:Cont) (i:Nat),sF C->(∃ o,cV i=some o)->sF (cW k C i):=by
 induction k with
 | zero=>exactλy y L y=>L
 | succ k ih=>
  intro C i L ⟨o,ho⟩ j hj;rw[iR] at hj;by_cases l:C.lk i=true
  ·rw[ai l] at hj;exact L j hj
  ·rw[aa l] at hj
   by_cases q:j=i
   ·rw[q,ho];rfl
   ·have hj:=(aa q).symm.trans hj
    cases r:par i with
    | none=>rw[r] at hj;exact L j hj
    | some p=>rw[r] at hj;exact ih C p L ((jU.of ho).up p r) j hj
theorem pF(k:Nat)(C:Cont)(i:Nat)(h:rk i<k):(cW k C i).lk i=true:=by
 cases k with
 | zero=>exact absurd h (j0 _)
 | succ k=>
  rw[iR];by_cases l:C.lk i=true
  ·rw[ai l];exact l
  ·rw[aa l];exact ai rfl
def GZ(C:Cont):Prop:=∀ i p,par i=some p->(cV p).isSome=true->C.lk i=true->C.lk p=true
theorem Bq(k:Nat):∀(C:Cont) (i:Nat),rk i<k->GZ C->(∃ o,cV i=some o)->GZ (cW k C i):=by
 induction k with
 | zero=>exactλy y h=>absurd h (j0 _)
 | succ k ih=>
  intro C i hk U ⟨o,ho⟩ j p hp hs hj;rw[iR] at hj ⊢;by_cases l:C.lk i=true
  ·rw[ai l] at hj ⊢;exact U j p hp hs hj
  ·rw[aa l] at hj ⊢
   by_cases pi:p=i
   ·exact ai pi
   refine(aa pi).trans ?_;by_cases q:j=i
   ·subst q
    rw[hp];exact pF k C p (gr (iJ hp).1 (jq hk))
   ·have hj:=(aa q).symm.trans hj
    cases r:par i with
    | none=>rw[r] at hj;exact U j p hp hs hj
    | some p'=>rw[r] at hj;exact ih C p' (gr (iJ r).1 (jq hk)) U ((jU.of ho).up p' r) j p hp hs hj
theorem Hi{x:Str}{t:Int}{s:Str}:∀ mt:List (Str × Ent),oX (cR x (some (t,s)) mt)=cR x t (oX mt):=by
 intro rr;induction rr with
 | nil=>exact rfl
 | cons q mt ih=>
  show oX (if q.1=x then _ else _)=if q.1=x then _ else _
  by_cases e:q.1=x
  ·rw[ai e,ai e];rfl
  ·rw[aa e,aa e]
   show _::oX (cR x (some (t,s)) mt)=_;rw[ih];rfl
section
variable{m:Nat}{X:XP}{Q:VQ}{j:Nat}
theorem IE{l:List (Str × Int)}{t:Int}(nd:(l.map (·.1)).Nodup):cU x (.int t 0) (KD l)=KD (cR x t l):=qA (g:=λq=>.int q.2 0) (g':=λq=>.int q.2 0) nd rfl λj j j=>rfl
theorem ID{l:List (Str × Int)}(h:l.length<=6):(KD l).length<big:=k6 (fu (gi (ef ..)) h) ()
theorem Inv.own{y y':Y w BX RD}(I:Inv y)(hi:i∈y.x.ids){o:Nat}(ho:cV i=some o){t:Int}(hC:y'.C=(cW 8 y.C i).setM o (cR x (some (t,("public":Str))) (y.C.c o).mt))(yQ:y'.x.ids=y.x.ids)(hD:y'.x.D=λj=>if j=i then { y.x.D i with al:=cR x t (y.x.D i).al } else y.x.D j)(hA:∀ j a,y.z.A.ad j=some a->y'.z.A.ad j=some a)(hb:0<=y'.x.bx.2):Inv y':=by
 have iu:=I.O.ids i hi;have ec:=tZ 8 y.C i I.V ⟨o,ho⟩;have no:=CX iu ho;have nu:∀{j},j∈pN->j≠o:=λhj q=>CX hj ho q.symm;have cj:∀{j},j≠o->y'.C.c j=y.C.c j:=λn=>by rw[hC];exact(dH n).trans (congrFun ec _)
 have co:y'.C.c o={ y.C.c o with mt:=cR x (some (t,("public":Str))) (y.C.c o).mt }:=by rw[hC];exact fZ.trans (by rw[ec])
 have lk:y'.C.lk=(cW 8 y.C i).lk:=by rw[hC];rfl
 have ex:y'.C.ex=(cW 8 y.C i).ex:=by rw[hC];rfl
 have oo:∀{j o'},cV j=some o'->j≠i->o'≠o:=λh n q=>n (by have h1:=(jU.of h).ao;rw[q,(jU.of ho).ao] at h1;exact(kr h1).symm);refine⟨⟨by rw[yQ];exact I.O.ids,by rw[yQ];exact I.O.b,λj=>?_⟩,λj hj=>?_,λj o' h l=>?_,λj l=>Bp 8 y.C i I.L ⟨o,ho⟩ j (by rwa [lk] at l),⟨I.b.1.imp λc h=>hA 1 c h,I.b.2.imp λc h=>hA 3 c h⟩,λj o' h q hq=>?_,λj p h1 h2 h3=>by rw[lk] at h3 ⊢;exact Bq 8 y.C i (qD i) I.lk ⟨o,ho⟩ j p h1 h2 h3,λh=>?_,hb⟩
 ·rw[hD];dsimp only
  by_cases q:j=i
  ·rw[ai q];exact I.O.ls i
  ·rw[aa q];exact I.O.ls j
 ·rw[yQ] at hj
  have ju:=I.O.ids j hj;rw[hD];dsimp only;unfold rowOf;rw[cj (nu ju)];by_cases q:j=i
  ·subst q
   rw[ai rfl,I.D j hj];show(⟨_,_,_,_,cR x t (tB y.C j)⟩:iX)=_;have e:tB y'.C j=cR x t (tB y.C j):=by unfold tB;rw[ho];dsimp only;rw[co];exact Hi _
   rw[e];rfl
  ·rw[aa q,I.D j hj]
   have e:tB y'.C j=tB y.C j:=by
    unfold tB;cases r:cV j with
    | none=>rfl
    | some o'=>dsimp only;rw[cj (oo r q)]
   rw[e];rfl
 ·rw[lk] at l
  have n:j≠i:=λq=>by rw[q,pF 8 y.C i (qD i)] at l;cases l
  have V:=rI 8 y.C i I.V ⟨o,ho⟩ j o' h l;rw[ex,cj (oo h n)];exact⟨V.1,by rw[<-congrFun ec o'];exact V.2⟩
 ·by_cases q':j=i
  ·subst q'
   cases ho.symm.trans h;rw[co] at hq;rcases nL (y.z.K.wf.nd o).1 hq with h|h
   ·exact⟨t,by rw[h]⟩
   ·exact I.al j o ho q h.1
  ·rw[cj (oo h q')] at hq;exact I.al j o' h q hq
 ·rw[yQ] at h
  have d:=I.HY h;exact⟨Oj (by rw[ex];exact JG 8 y.C i 14 ⟨o,ho⟩ rfl) d.1,(cj (nu ⋯)).trans d.2⟩
end
section
variable{m:Nat}{X:XP}{Q:VQ}{j:Nat}
theorem Sw{a:Ad}{r:Nat->Ad}{tp:Str->Ad}{d:iX}{ct:List (Str × Int)}:∀ k',k'<6->k'≠3->cH a r tp { d with ct:=ct } i k'=cH a r tp d i k'
 | 0,_,_=>rfl
 | 1,_,_=>rfl
 | 2,_,_=>rfl
 | 3,_,n=>absurd rfl n
 | 4,_,_=>rfl
 | _+5,_,_=>rfl
theorem row2{a:Ad}{r:Nat->Ad}{tp:Str->Ad}{d:iX}{al:List (Str × Int)}:∀ k',k'<6->k'≠2->cH a r tp { d with al:=al } i k'=cH a r tp d i k'
 | 0,_,_=>rfl
 | 1,_,_=>rfl
 | 2,_,n=>absurd rfl n
 | 3,_,_=>rfl
 | 4,_,_=>rfl
 | _+5,_,_=>rfl
theorem Ci(y:Y w BX RD)(I:Inv y)(hb:y.x.bx.2<2^29)(hi:i∈y.x.ids)(hu:i=12\/i=13\/i=14){t:Int}(hq:∀ y',Nx 2 y y'->Q (.bool true) y'.z.P):Calls (m+17) 1141 [.ref BX,.ref w.W,.ref RD,.str (fE i) 0,.int t 0] y.z.P X Q:=by
 refine aB 97 rfl rfl rfl ⟨bl,λe1 he1=>draw (m:=m+15) y I (by lia) ["K","L"] rfl () rfl he1 λd1 s y1 hs n1 f1 h1 g1=>cC f1 h1.1 h1.2 g1 (xQ (m:=m+15) y1 n1.I (by have:=n1.bx;lia) (n:=2) () λd2 a0 a1 y2 n2=>⟨bl,λe he=>nZ (aA ..) ⟨rfl,?_⟩⟩)⟩
 have hx:KL s:=by
  rcases ku hs with h|h
  ·exact .inl h
  ·exact .inr (cu h)
 let y3:=y2.go (y2.z.new e (.tup [.str s 0,.int d2 0]) he) ((Le.refl y2.z).new _ he);have n3:Nx 2 y y3:=(n1.trans n2).go _ _;have I3:=n3.I;have kN:i∈y3.x.ids:=by rw[n3.ids];exact hi
 have iu:=I.O.ids i hi;have ri:=y3.row kN (k:=0) ();have D:=I3.D i kN;have th:=y3.L.th i kN;by_cases hd:d2=0
 ·subst hd
  refine(λq=>aO (v:=.ref (y3.x.r i 0)) y3.L.rows (bC iu I3.O.ids kN) λq=>aO (v:=.ref (y3.x.th i)) ri rfl ⟨bl,λf hf=>?_⟩);let z4:=y3.z.new f (.list (0,0) [.str s 0,.int t 0]) hf;refine lO (m:=m+12) z4 th hu hx (aA ..) (y3.z.un hf) λz5 l5 q=>?_;have l35:Le y3.z z5:=((Le.refl y3.z).new _ hf).trans l5;let y5:=y3.go z5 l35;have ct6:=y3.z.K.wf.Tn i
  refineλq=>aO (v:=.ref (y3.x.r i 0)) y5.L.rows (bC iu I3.O.ids kN) λq=>aO (v:=.ref (y3.x.r i 3)) (y5.row (i:=i) kN (k:=0) ()) rfl (cX (y5.row (i:=i) kN (k:=3) ()) (ID (by show(y3.x.D i).ct.length<=6;rw[D];exact ct6)) ?_)
  let y6:=y5.w9 (i:=i) (k:=3) kN () { y3.x.D i with ct:=cR s t (y3.x.D i).ct } rfl Sw;have u5:=y3.z.K.wf.u5 i (by lia);have n6:Nx 2 y y6:=⟨I3.cont (y':=y6) kN (o:={ y3.C.c i with ct:=cR s t (y3.C.c i).ct }) rfl rfl (by show(λk=>if k=i then { y3.x.D i with ct:=cR s t (y3.x.D i).ct } else y3.x.D k)=_;rw[D];rfl) u5 (λj a h=>(l35.ad j a h).1) I3.bx,(n3.f.go z5 l35).w9 (i:=i) (k:=3) kN () { y3.x.D i with ct:=cR s t (y3.x.D i).ct } rfl Sw,n3.ids,n3.bx,λj a h=>(l35.ad j a (n3.A j a h)).1⟩
  refine Eq.mp (aj (Q (.bool true)) ?_) (hq y6 n6);show upd z5.P (y3.x.r i 3) (.dict (0,0) (KD (cR s t (y3.x.D i).ct)))=upd z5.P (y3.x.r i 3) (.dict (0,0) (cU s (.int t 0) (KD (y3.x.D i).ct)));rw[IE (by rw[D];exact(y3.z.K.wf.nc i).1)]
 ·have hd1:d2=1:=by lia
  subst hd1;obtain⟨o,ho,hoi⟩:∃ o,cV i=some o/\¬ (o<12\/15<o/\o<19):=by rcases hu with rfl|rfl|rfl<;>exact⟨_,rfl,()⟩
  obtain⟨c3,h3⟩:=I3.b.2;refine(λq=>aO (v:=.ref (y3.x.r i 0)) y3.L.rows (bC iu I3.O.ids kN) λq=>aO (v:=.ref (y3.x.th i)) ri rfl (p8 (m:=m+1) 8 i y3.z (qD i) ho th h3 I3.V I3.L λz4 b l4 hb4 q=>?_));have l34:Le y3.z z4:=l4;refine tE (m:=m+14) (Q:=λv P'=>Calls (m+16) 551 [.ref w.W,.ref b,v] P' X λq P'=>wpS (m+16) (fF 13) (.seq (.fG (.prim .item (.cons (.prim .item (.cons (.loc 2) (.cons (.loc 3) .nil))) (.cons (.con (.str "alone" 0)) .nil))) (.loc 5) (.loc 4)) .skip) (some (.ref BX)::some (.ref w.W)::some (.ref RD)::some (.str (fE i) 0)::some (.int t 0)::some (.str s 0)::some (.int 1 0)::some (.ref b)::nN 5) P' X (λl P'=>wpS (m+16) (fF 13) (.seq (.ret (.con (.bool true))) .skip) l P' X (λq P'=>Q .none P') Q) Q) λP5 f tt p5 hf h5=>?_;let z5:=z4.pu P5 p5;have l5:Le y3.z z5:=l34.pu P5 p5;have hs5:z5.P f=some (.inst 256 (tK (some (t,("public":Str))) ⟨s,b,tt⟩)):=h5;have nf:Nw y3.z f:=(Nw.none z4 hf).of l34;have l6:=l5.mS hb4 hoi hx.key hs5 (z4.un hf) nf;refine Aq (m:=m+14) z5 hb4 hoi hx.key hs5 (z4.un hf) ?_;let z6:=z5.mS hb4 hoi hx.key hs5 (z4.un hf);have ec:=tZ 8 y3.C i I3.V ⟨o,ho⟩;let y6:=y3.go z6 l6;have al6:(y3.x.D i).al.length<=6:=by rw[D];show(tB y3.C i).length<=6;unfold tB;rw[ho];exact fu (gi (ef ..)) (y3.z.K.wf.Jd o)
  have alnd:((y3.x.D i).al.map (·.1)).Nodup:=by rw[D];show((tB y3.C i).map (·.1)).Nodup;unfold tB;rw[ho];show((oX (y3.C.c o).mt).map (·.1)).Nodup;unfold oX;rw[ir];exact(y3.z.K.wf.nd o).1
  refineλq=>aO (v:=.ref (y3.x.r i 0)) y6.L.rows (bC iu I3.O.ids kN) λq=>aO (v:=.ref (y3.x.r i 2)) (y6.row (i:=i) kN (k:=0) ()) rfl (cX (y6.row (i:=i) kN (k:=2) ()) (ID al6) ?_)
  let y7:=y6.w9 (i:=i) (k:=2) kN () { y3.x.D i with al:=cR s t (y3.x.D i).al } rfl row2;have n7:Nx 2 y y7:=⟨I3.own (y':=y7) kN ho (x:=s) (t:=t) (by show(cW 8 y3.C i).setM o (cR s (some (t,("public":Str))) ((cW 8 y3.C i).c o).mt)=_;rw[ec]) rfl rfl (λj a h=>(l6.ad j a h).1) I3.bx,(n3.f.go z6 l6).w9 (i:=i) (k:=2) kN () { y3.x.D i with al:=cR s t (y3.x.D i).al } rfl row2,n3.ids,n3.bx,λj a h=>(l6.ad j a (n3.A j a h)).1⟩
  refine Eq.mp (aj (Q (.bool true)) ?_) (hq y7 n7);show upd z6.P (y3.x.r i 2) (.dict (0,0) (KD (cR s t (y3.x.D i).al)))=upd z6.P (y3.x.r i 2) (.dict (0,0) (cU s (.int t 0) (KD (y3.x.D i).al)));rw[IE alnd]
end
noncomputable def Ea(ah mx behind:List Nat)(i:Nat):List Nat:=
 let found:=mq behind ah.length (ah.reverse++i::mx.reverse) []
 found++behind.filter λx=>!found.contains x
noncomputable def NH(ah mx behind:List Nat)(i:Nat):List Nat:=ah.reverse++[i]++mx.reverse.filter λx=>!ah.contains x&&!behind.contains x
noncomputable def wZ(ah mx behind:List Nat)(i:Nat):List Nat:=NH ah mx behind i++behind.filter λx=>!(NH ah mx behind i).contains x
theorem T5:∀ ah∈oG,∀ mx∈oG,Ea ah mx [1,4,0] 12=wZ ah mx [] 12++[1,4,0]:=⋯
theorem T6:∀ i∈([13,14]:List Nat),∀ ah'∈oG,∀ mx'∈oG,∀ ah∈oG,∀ mx∈oG,Ea ah mx (wZ ah' mx' [] 12++[1,4,0]) i=wZ ah mx (wZ ah' mx' [] 12) i++[1,4,0]:=⋯
def KH(i:Nat):Prop:=i<12\/14<i
theorem Il{i p:Nat}(h:KH i)(hp:par i=some p):KH p:=by
 have key:∀ i,i<22->(i<12\/14<i)->∀ p∈(par i).toList,p<12\/14<p:=⋯;by_cases hi:i<22
 ·exact key i hi h p (mem_some hp)
 ·unfold par at hp
  rw[ji (Nat.le_of_not_lt hi)] at hp;cases hp
theorem A9{C:Cont}(W:jV C):∀ k i,KH i->jO C k i=jO C0 k i:=by
 intro rr;induction rr with
 | zero=>exactλq q=>rfl
 | succ k ih=>
  intro i h;show eK C _ i=eK C0 _ i;unfold eK mQ;rw[(W.base i h).2.1,(W.base i h).2.2];cases e:par i with
  | none=>rfl
  | some p=>dsimp only;rw[ih p (Il h e)];rfl
theorem D7{C:Cont}(W:jV C):aX C 12=wZ (C.c 12).ah (C.c 12).mx [] 12++[1,4,0]:=by rw[zd C 12];show Ea (C.c 12).ah (C.c 12).mx (aX C 1) 12=_;rw[show aX C 1=[1,4,0] from(A9 W 12 1 (.inl ())).trans ⋯];exact T5 _ (W.u5 12 ()).2 _ (W.u5 12 ()).1
theorem LH{C:Cont}(W:jV C){i:Nat}(hi:i∈([13,14]:List Nat)):aX C i=wZ (C.c i).ah (C.c i).mx (wZ (C.c 12).ah (C.c 12).mx [] 12) i++[1,4,0]:=by have hp:par i=some 12:=(by decide +kernel:∀ i∈([13,14]:List Nat),par i=some 12) i hi;have h12:12<=i:=(by decide +kernel:∀ i∈([13,14]:List Nat),12<=i) i hi;rw[zd C i,hp];show Ea (C.c i).ah (C.c i).mx (aX C 12) i=_;rw[D7 W];exact T6 i hi _ (W.u5 12 ()).2 _ (W.u5 12 ()).1 _ (W.u5 i h12).2 _ (W.u5 i h12).1
theorem vj{y:Y w BX RD}(I:Inv y)(hi:i∈y.x.ids)(hu:i=12\/i=13\/i=14):aX y.C i=iN y.x.D i++[1,4,0]:=by
 have D12:=I.D 12 I.O.b.1;have Di:=I.D i hi;unfold iN;by_cases h:i=13\/i=14
 ·rw[ai h]
  show _=wZ (y.x.D i).ah (y.x.D i).mx (wZ (y.x.D 12).ah (y.x.D 12).mx [] 12) i++_;rw[Di,D12];exact LH y.z.K.wf (by rcases h with rfl|rfl<;>decide)
 ·rw[aa h]
  have h12:i=12:=by lia
  subst h12;show _=wZ (y.x.D 12).ah (y.x.D 12).mx [] 12++_;rw[D12];exact D7 y.z.K.wf
theorem xT{C:Cont}(W:jV C){x:Str}:∀ l:List Nat,(∀ j∈l,j<12\/15<j/\j<19)->jB C x l=none:=by
 intro rr;induction rr with
 | nil=>exactλq=>rfl
 | cons j l ih=>intro h;rw[qe];rw[W.BS j (h j (.head _))];exact ih λk hk=>h k (.tail _ hk)
theorem Ik{C:Cont}{D:Nat->iX}{x:Str}{r:List Nat}(hr:jB C x r=none):∀ l:List Nat,(∀ j∈l,(D j).mt=(C.c j).mt)->jB C x (l++r)=findD D x l:=by
 intro rr;induction rr with
 | nil=>exactλq=>hr
 | cons j l ih=>intro h;show(match (C.c j).mt.lookup x with|some d=>d|none=>jB C x (l++r))=(match (D j).mt.lookup x with|some d=>d|none=>findD D x l);rw[h j (.head _),ih λk hk=>h k (.tail _ hk)]
theorem AL{y:Y w BX RD}(I:Inv y)(hi:i∈y.x.ids)(hu:i=12\/i=13\/i=14):aW y.C i x=findD y.x.D x (iN y.x.D i):=by unfold aW;rw[vj I hi hu];exact Ik (xT y.z.K.wf _ ()) _ λj hj=>by rw[I.D j (mJ I.O hi j hj)];rfl
theorem EW{C:Cont}{D:Nat->iX}{x:Str}(hi:i≠1):∀ l:List Nat,(∀ j∈l,j≠1/\(D j).ct=(C.c j).ct)->se C x i (l++[1,4,0])=kU D x l:=by
 intro rr;induction rr with
 | nil=>intro y;show(if 1=1/\i≠1 then none else _)=none;rw[ai ⟨rfl,hi⟩]
 | cons j l ih=>intro h;show(if j=1/\i≠1 then none else match (C.c j).ct.lookup x with|some v=>some v|none=>se C x i (l++[1,4,0]))=(match (D j).ct.lookup x with|some d=>some d|none=>kU D x l);rw[aa λq=>(h j (.head _)).1 q.1,(h j (.head _)).2,ih λk hk=>h k (.tail _ hk)]
theorem Ox{y:Y w BX RD}(I:Inv y)(hi:i∈y.x.ids)(hu:i=12\/i=13\/i=14):Cn y.C i x=kU y.x.D x (iN y.x.D i):=by unfold Cn;rw[vj I hi hu];refine EW (by lia) _ λj hj=>?_;have hj':=mJ I.O hi j hj;exact⟨λq=>absurd (I.O.ids j hj') (by rw[q];decide +kernel),by rw[I.D j hj'];rfl⟩
theorem Dw{x:Str}:∀ mt:List (Str × Ent),(∀ q∈mt,∃ t,q.2=some (t,("public":Str)))->(mt.lookup x=none/\(oX mt).lookup x=none)\/∃ t,mt.lookup x=some (some (t,("public":Str)))/\(oX mt).lookup x=some t:=by
 intro rr;induction rr with
 | nil=>exactλj=>.inl ⟨rfl,rfl⟩
 | cons yk mt ih=>
  obtain⟨k,d⟩:=yk;intro h;obtain⟨t,ht⟩:=h _ (.head _);have ht:d=some (t,("public":Str)):=ht;subst ht;show(((k,_)::mt).lookup x=none/\((k,t)::oX mt).lookup x=none)\/∃ t',((k,_)::mt).lookup x=some (some (t',("public":Str)))/\((k,t)::oX mt).lookup x=some t';rw[f6,f6];cases e:x==k with
  | true=>exact .inr ⟨t,rfl,rfl⟩
  | false=>exact ih λq hq=>h q (.tail _ hq)
theorem Ml{y:Y w BX RD}(I:Inv y)(hi:i∈y.x.ids)(hu:i=12\/i=13\/i=14):aW y.C (zw y.C i) x=(iH y.x.D x i).map λt=>(t,("public":Str)):=by
 have W:=y.z.K.wf;have fix:∀ j l,KH j->aX C0 j=l->aX y.C j=l:=λj l h e=>(A9 W 12 j h).trans e;have base:∀ l:List Nat,(∀ j∈l,j<12\/15<j/\j<19)->jB y.C x l=none:=xT W;have l19:aX y.C 19=[19,18,17,3,2,1,4,0]:=fix 19 _ (.inr ()) ⋯;have l20:aX y.C 20=[20,19,18,17,3,2,1,4,0]:=fix 20 _ (.inr ()) ⋯;have l21:aX y.C 21=[21,19,18,17,3,2,1,4,0]:=fix 21 _ (.inr ()) ⋯;have D12:(y.x.D 12).al=oX (y.C.c 19).mt:=by rw[I.D 12 I.O.b.1];rfl
 have f19:jB y.C x [19,18,17,3,2,1,4,0]=((y.x.D 12).al.lookup x).map λt=>(t,("public":Str)):=by
  rw[D12];rw[qe];rcases Dw (x:=x) _ (I.al 12 19 rfl) with⟨h1,h2⟩|⟨t,h1,h2⟩
  ·rw[h1,h2];exact base _ ()
  ·rw[h1,h2];rfl
 have none12:y.C.lk 12=false->(y.x.D 12).al=[]:=λh=>by rw[D12,(I.V 12 19 rfl h).2];rfl
 have up:aW y.C (vL y.C 8 (some 12)) x=((y.x.D 12).al.lookup x).map λt=>(t,("public":Str)):=by
  show aW y.C (if y.C.lk 12=true then 19 else vL y.C 7 (some 1)) x=_;by_cases h:y.C.lk 12=true
  ·rw[ai h];unfold aW;rw[l19];exact f19
  ·rw[aa h,none12 (by simpa using h)]
   show aW y.C (if y.C.lk 1=true then 18 else if y.C.lk 0=true then 17 else 3) x=none;unfold aW;by_cases h1:y.C.lk 1=true
   ·rw[ai h1,fix 18 [18,17,3,2,1,4,0] (.inr ()) ⋯];exact base _ ()
   ·rw[aa h1]
    by_cases h0:y.C.lk 0=true
    ·rw[ai h0,fix 17 [17,3,2,1,4,0] (.inr ()) ⋯];exact base _ ()
    ·rw[aa h0,fix 3 [3,2,1,4,0] (.inl ()) ⋯];exact base _ ()
 have step:∀(i o:Nat),i=13\/i=14->i∈y.x.ids->cV i=some o->par i=some 12->aX y.C o=o::[19,18,17,3,2,1,4,0]->aW y.C (zw y.C i) x=(iH y.x.D x i).map λt=>(t,("public":Str)):=λi o hh hi ho hp lo=>by
  have Di:(y.x.D i).al=oX (y.C.c o).mt:=by rw[I.D i hi];show tB y.C i=_;unfold tB;rw[ho]
  unfold iH zw;rw[ai hh,Di,hp,ho];by_cases h:y.C.lk i=true
  ·rw[ai h]
   show jB y.C x (aX y.C o)=_;rw[lo];show(match (y.C.c o).mt.lookup x with|some d=>d|none=>jB y.C x [19,18,17,3,2,1,4,0])=_;rcases Dw (x:=x) _ (I.al i o ho) with⟨h1,h2⟩|⟨t,h1,h2⟩
   ·rw[h1,h2];exact f19
   ·rw[h1,h2];rfl
  ·rw[aa h,(I.V i o ho (by simpa using h)).2];exact up
 rcases hu with rfl|rfl|rfl
 ·have a12:iH y.x.D x 12=(y.x.D 12).al.lookup x:=by
   unfold iH;cases (y.x.D 12).al.lookup x with
   | none=>exact aa ()
   | some d=>rfl
  rw[a12];unfold zw;by_cases h:y.C.lk 12=true
  ·rw[ai h]
   show jB y.C x (aX y.C 19)=_;rw[l19];exact f19
  ·rw[aa h]
   have u:=up;rw[show vL y.C 8 (some 12)=vL y.C 7 (some 1) from aa h] at u;exact u
 ·exact step 13 20 (.inl rfl) hi rfl rfl l20
 ·exact step 14 21 (.inr rfl) hi rfl rfl l21
section
section
variable{m:Nat}{X:XP}{Q:VQ}
structure t8(y y':Y w BX RD):Prop where
 n:Nx 0 y y'
 x:∃ g,y'.x={ y.x with g:=g }
 P:∀ b o,y.z.P b=some o->(∀ es,o≠.tab es)->y'.z.P b=some o
theorem t8.trans{y y' y'':Y w BX RD}(a:t8 y y')(b:t8 y' y''):t8 y y'':=by refine⟨a.n.trans b.n,?_,λc o h n=>b.P c o (a.P c o h n) n⟩;obtain⟨g,e⟩:=a.x;obtain⟨g',e'⟩:=b.x;exact⟨g',by rw[e',e]⟩
theorem Inv.B9{y:Y w BX RD}(I:Inv y){t:Ad}(ht:t=1122\/t=1164){es:List (Nat × Ad)}(hes:y.z.P t=some (.tab es)){k:Nat}{c:Ad}(hk:es.lookup k=none)(hc:y.z.P c=none):Inv (y.B9 ht hes hk hc):=⟨⟨I.O.ids,I.O.b,I.O.ls⟩,I.D,I.V,I.L,I.b,I.al,I.lk,I.HY,I.bx⟩
def lY(y:Y w BX RD)(a:Ad)(k:Nat)(vs:List Va):Prop:=∃ c,y.z.P a=some (.lam k (.ref c::vs))/\y.z.P c=some (.code k)
theorem t8.at{y y':Y w BX RD}(h:t8 y y'){a:Ad}{k:Nat}{vs:List Va}(p:lY y a k vs):lY y' a k vs:=p.imp λc q=>⟨h.P _ _ q.1 λj e=>(by cases e),h.P _ _ q.2 λj e=>(by cases e)⟩
theorem IM(k:Nat)(y:Y w BX RD)(I:Inv y){vs:List Va}(hk:dP k=1122\/dP k=1164)(hq:∀(y':Y w BX RD) a,t8 y y'->lY y' a k vs->Q (.ref a) y'.z.P):
  (match y.z.P (dP k) with
  | some (.tab es)=>(match es.lookup k with
   | some c=>y.z.P c=some (.code k)/\cG y.z.P (.lam k (.ref c::vs)) Q
   | none=>∀ c,y.z.P c=none->c≠dP k->cG (upd (upd y.z.P (dP k) (.tab (es++[(k,c)]))) c (.code k)) (.lam k (.ref c::vs)) Q)
  | _=>False):=by
 obtain⟨es,h1,h2,h3⟩:=y.L.tb _ hk;rw[h1];dsimp only;cases q:es.lookup k with
 | some c=>refine⟨(h3 k c q).1,λa ha=>?_⟩;have pu:=(Pu.refl y.z.P).new (.lam k (.ref c::vs)) ha;exact hq (y.go (y.z.new a (.lam k (.ref c::vs)) ha) ((Le.refl y.z).new _ ha)) a ⟨(Nx.refl I).go _ _,⟨y.x.g,rfl⟩,λb o h j=>pu _ _ h⟩ ⟨c,aA ..,pu _ _ (h3 k c q).1⟩
 | none=>
  refineλc hc nc a ha=>?_
  let y1:=y.B9 hk h1 q hc;have pu:=(Pu.refl y1.z.P).new (.lam k (.ref c::vs)) ha;have n1:Nx 0 y y1:=⟨I.B9 hk h1 q hc,(Lf.refl y).B9 hk h1 q hc,rfl,by show y.x.bx.2<=_;lia,λj j h=>h⟩
  have ha':y1.z.P a=none:=ha;refine hq (y1.go (y1.z.new a (.lam k (.ref c::vs)) ha') ((Le.refl y1.z).new _ ha')) a ⟨n1.go _ _,⟨y1.x.g,rfl⟩,λb o h nt=>pu _ _ ?_⟩ ⟨c,aA ..,pu _ _ (aA ..)⟩;show upd (upd y.z.P _ _) _ _ b=_;exact(aD λe=>by rw[e,hc] at h;cases h).trans ((aD λe=>by rw[e,h1] at h;obtain rfl:=kr h;exact nt _ rfl).trans h)
theorem qS.RK{y y':Y w BX RD}(f:Lf y y'){v:Va}:∀{o:Ent},qS y v o->qS y' v o
 | none,h=>h
 | some _,⟨e,h1,h2,h3⟩=>⟨e,h1,f.fz e _ h2 rfl h3⟩
noncomputable def Y.sL(y:Y w BX RD)(hi:i∈y.x.ids)(x:Str):Y w BX RD:=y.setM hi (sJ x (y.x.D i).mt) (y.x.tp i) y.x.g (λj j h=>h) (λc t h=>y.L.un c t h) λq hq d hd=>y.L.tup i hi q (qc hq) d hd
theorem Y.OE(y:Y w BX RD)(hi:i∈y.x.ids)(x:Str):(y.sL hi x).z.P=upd y.z.P (y.x.r i 1) (.dict (0,0) (vd x (yp (y.x.D i).mt (y.x.tp i)))):=by unfold yp;rw[DO];rfl
theorem Lf.sL{y0 y:Y w BX RD}(a:Lf y0 y)(hi:i∈y.x.ids)(x:Str):Lf y0 (y.sL hi x):=
 have R:=(y.L.row i hi 1 ()).2
 ⟨λc o p n q r=>
  have s:=a.fr c o p n q r
  ⟨(aD λz=>by rw[z,R] at s;cases s.2.2).trans s.1,s.2⟩,λc o p n q=>
  have s:=a.fz c o p n q
  ⟨(aD (gE s.2 R λz=>by cases z)).trans s.1,s.2⟩⟩
theorem Nx.sL{k:Nat}{y0 y:Y w BX RD}(a:Nx k y0 y)(hi:i∈y.x.ids)(z':Z w (y.C.setM i (sJ x (y.C.c i).mt)) [])(l:Le y.z z'):Nx k y0 ((y.go z' l).sL (i:=i) hi x):=by have D:=a.I.D i hi;have u5:=y.z.K.wf.u5 i ((by decide +kernel:∀ i∈pN,12<=i) i (a.I.O.ids i hi));refine⟨a.I.cont hi (o:={ y.C.c i with mt:=sJ x (y.C.c i).mt }) rfl rfl ?_ u5 (λj c h=>(l.ad j c h).1) a.I.bx,(a.f.go z' l).sL hi x,a.ids,a.bx,λj c h=>(l.ad j c (a.A j c h)).1⟩;show(λj=>if j=i then { y.x.D i with mt:=sJ x (y.x.D i).mt } else y.x.D j)=_;rw[D];rfl
end
end
section
variable{m:Nat}{X:XP}{Q:VQ}{s:Str}{C:Cont}{th c:Ad}
theorem k9{z:Z w C []}{f:Ad}{o:PO}(hf:z.P f=none)(h:∀ z':Z w C [],Le z z'->Q (.str "error NameError" 0) z'.P):Raises (z.new f o hf) λe P'=>∃ z':Z w C [],P'=z'.P/\xA z' e/\Q (.str "error NameError" 0) z'.P:=λz' q l he=>⟨z',rfl,he,h z' (((Le.refl z).new _ hf).trans l)⟩
theorem Cd(z:Z w C [])(hP:z.P a=some (.lam 833000 (.ref c::[.str s 0,.ref th,.ref w.W])))(hC:z.P c=some (.code 833000))(ha:z.A.ad i=some th)(U:Ac i)(hx:s∈bH)
  (hq:∀ q,(C.c i).mt.lookup s=some (some q)->∀ z':Z w (C.setM i (sJ s (C.c i).mt)) [],Le z z'->Q (.str "done" 0) z'.P)
  (hX:(C.c i).mt.lookup s=none\/(C.c i).mt.lookup s=some none->∀ z':Z w C [],Le z z'->Q (.str "error NameError" 0) z'.P):
  Calls (m+38) 1087 [.ref a] z.P X Q:=fW (m:=m+37) hP (iT (ql wd.params) hP hC ⟨bl,λf hf=>sI (m:=m) (z.new f (.list (0,0) [.str s 0]) hf) ha U hx (aA ..) (z.un hf) (λq e z' l j=>hq q e z' (((Le.refl z).new _ hf).trans l)) λe=>k9 hf (hX e)⟩)
theorem Hz(z:Z w C [])(hP:z.P a=some (.lam 834000 (.ref c::[.str s 0,.ref th,.ref w.W])))(hC:z.P c=some (.code 834000))(ha:z.A.ad i=some th)(U:Ac i)(hx:s∈bH)
  (hq:∀ q,aW C i s=some q->∀ z':Z w (C.setM i (cR s none (C.c i).mt)) [],Le z z'->Q (.str "done" 0) z'.P)
  (hX:aW C i s=none->∀ z':Z w C [],Le z z'->Q (.str "error NameError" 0) z'.P):
  Calls (m+38) 1087 [.ref a] z.P X Q:=fW (m:=m+37) hP (iT (ql wd.params) hP hC ⟨bl,λf hf=>uD (m:=m) (z.new f (.list (0,0) [.str s 0]) hf) ha U hx (aA ..) (z.un hf) (λq e z' l j=>hq q e z' (((Le.refl z).new _ hf).trans l)) λe=>k9 hf (hX e)⟩)
theorem HB(z:Z w C [])(hP:z.P a=some (.lam 836000 (.ref c::[.str x 0,.str s 0,.ref th,.ref w.W])))(hC:z.P c=some (.code 836000))(ha:z.A.ad i=some th)(U:Ac i)(hy:x∈bH)(hx:s∈bH)
  (hq:∀ q,aW C i s=some q->∀ z':Z w (C.setM i (cR x (some q) (C.c i).mt)) [],Le z z'->Q (.str "done" 0) z'.P)
  (hX:aW C i s=none->∀ z':Z w C [],Le z z'->Q (.str "error NameError" 0) z'.P):
  Calls (m+38) 1087 [.ref a] z.P X Q:=fW (m:=m+37) hP (iT (ql wd.params) hP hC ⟨bl,λf hf=>uC (m:=m) (z.new f (.list (0,0) [.str x 0,.str s 0]) hf) ha U hy hx (aA ..) (λq e z' l j=>hq q e z' (((Le.refl z).new _ hf).trans l)) λe=>k9 hf (hX e)⟩)
theorem HC(z:Z w C [])(hP:z.P a=some (.lam 837000 (.ref c::[.str s 0,.ref th,.ref w.W])))(hC:z.P c=some (.code 837000))(ha:z.A.ad i=some th)(U:Ac i)(hx:s∈bH)
  (hq:∀ q,aW C i s=some q->∀ z':Z w (if q.2≠"private"\/(C.c i).mt.lookup s=none then C.setM i (cR s (some (q.1,"private")) (C.c i).mt) else C) [],Le z z'->Q (.str "done" 0) z'.P)
  (hX:aW C i s=none->∀ z':Z w C [],Le z z'->Q (.str "error NameError" 0) z'.P):
  Calls (m+38) 1087 [.ref a] z.P X Q:=fW (m:=m+37) hP (iT (ql wd.params) hP hC ⟨bl,λf hf=>Aw (m:=m+1) (z.new f (.list (0,0) [.str s 0]) hf) ha U hx (aA ..) (z.un hf) (λq e z' l j=>hq q e z' (((Le.refl z).new _ hf).trans l)) λe=>k9 hf (hX e)⟩)
end
section
variable{m:Nat}{X:XP}{Q:VQ}{s mo:Str}
noncomputable abbrev QF:List Bool:=[false,true,false,false,false,false,false,false,false,false,true,true,true,false,false,false]
noncomputable def We(tp:Str->Ad)(s:Str):Op Ent->Va
 | some (some _)=>.ref (tp s)
 | _=>.none
theorem C9{tp:Str->Ad}{mt:List (Str × Ent)}{o:Op Ent}(h:mt.lookup s=o):(aR s (yp mt tp)).getD .none=We tp s o:=by
 rw[rR,h];cases o with
 | none=>rfl
 | some d=>cases d<;>rfl
noncomputable def lN(y:Y w BX RD)(i:Nat)(v4:Op Va)(d:Int)(v:Va)(ea:Ad)(v9:Op Va)(mo s:Str):Lv:=(some (.ref BX)::some (.ref w.W)::some (.ref RD)::some (.str (fE i) 0)::v4::some (.int d 0)::some v::some (.ref (y.x.r i 1))::some (.ref ea)::v9::some (.str mo 0)::some (.str s 0)::some (.ref (y.x.th i))::nN 3)
theorem Px(y:Y w BX RD)(I:Inv y)(hi:i∈y.x.ids)(hu:i=12\/i=13\/i=14)(sk:s∈bH){v4:Op Va}{v:Va}{ea a0:Ad}{t:Nat × Nat}{vs:List Va}(he:y.z.P ea=some (.list t (.ref a0::vs)))(h0:lY y a0 833000 [.str s 0,.ref (y.x.th i),.ref w.W])(hq:∀ y',Nx 0 y y'->Q (.bool true) y'.z.P){N:NP}:
  wpS (m+38) QF (bV 4 eF) (lN y i v4 0 v ea none mo s) y.z.P X N Q:=by
 obtain⟨c,hP,hC⟩:=h0;have T:=y.row hi (k:=1) ();have D:=I.D i hi;have Dm:(y.x.D i).mt=(y.C.c i).mt:=by rw[D];rfl
 have bad:(y.C.c i).mt.lookup s=none\/(y.C.c i).mt.lookup s=some none->∀(z':Z w y.C []),Le y.z z'->Q (.bool true) z'.P:=λj z' l=>hq _ ((Nx.refl I).go z' l);have th:=y.L.th i hi;cases q:(y.C.c i).mt.lookup s with
 | none=>refine⟨mH T,uW T ?_⟩;rw[C9 ((aj (List.lookup s) Dm).trans q)];refine⟨rfl,cC (v:=.ref a0) he () () rfl ?_⟩;exact Cd (m:=m) y.z hP hC th (.of hu) sk (λq' e=>by rw[q] at e;cases e) λj z' l=>bad (.inl q) z' l
 | some d=>
  cases d with
  | none=>refine⟨mH T,uW T ?_⟩;rw[C9 ((aj (List.lookup s) Dm).trans q)];refine⟨rfl,cC (v:=.ref a0) he () () rfl ?_⟩;exact Cd (m:=m) y.z hP hC th (.of hu) sk (λq' e=>by rw[q] at e;cases e) λj z' l=>bad (.inr q) z' l
  | some d=>
   refine⟨mH T,uW T ?_⟩;rw[C9 ((aj (List.lookup s) Dm).trans q)];refine⟨rfl,cC (v:=.ref a0) he () () rfl ?_⟩;refine Cd (m:=m) y.z hP hC th (.of hu) sk (λq' e z' l=>?_) λe=>by rw[q] at e;rcases e with e|e<;>cases e
   let y1:=y.go z' l;have T1:=y1.row (i:=i) hi (k:=1) ();have tl:(yp (y.x.D i).mt (y.x.tp i)).length<big:=by rw[Dm];exact k6 (fu (gi (ef ..)) (y.z.K.wf.Jd i)) ()
   have kg:aR s (yp (y.x.D i).mt (y.x.tp i))=some (.ref (y.x.tp i s)):=by rw[rR,Dm,q];rfl
   refine⟨mH T1,So T1 tl kg ?_⟩;exact Eq.mp (aj (Q (.bool true)) (Y.OE y1 hi s)) (hq _ ((Nx.refl I).sL hi z' l))
end
section
variable{m:Nat}{X:XP}{Q:VQ}{s mo:Str}
theorem Py(y:Y w BX RD)(I:Inv y)(hi:i∈y.x.ids)(hu:i=12\/i=13\/i=14)(sk:s∈bH){v4:Op Va}{v:Va}(kv:qS y v (aW y.C i s)){ea a0 a1:Ad}{t:Nat × Nat}{vs:List Va}(he:y.z.P ea=some (.list t (.ref a0::.ref a1::vs)))(h1:lY y a1 834000 [.str s 0,.ref (y.x.th i),.ref w.W])(hq:∀ y',Nx 0 y y'->Q (.bool true) y'.z.P){N:NP}:
  wpS (m+38) QF (bV 4 eF) (lN y i v4 1 v ea none mo s) y.z.P X N Q:=by
 obtain⟨c,hP,hC⟩:=h1;have D:=I.D i hi;have Dm:(y.x.D i).mt=(y.C.c i).mt:=by rw[D];rfl
 have th:=y.L.th i hi;cases q:aW y.C i s with
 | none=>rw[q] at kv;have kv:v=.none:=kv;subst kv;refine⟨rfl,cC (v:=.ref a1) he () () rfl (Hz (m:=m) y.z hP hC th (.of hu) sk (λq' e=>by rw[q] at e;cases e) λj z' l=>hq _ ((Nx.refl I).go z' l))⟩
 | some d=>
  rw[q] at kv;obtain⟨e,rfl,k1,k2⟩:=kv;refine⟨rfl,cC (v:=.ref a1) he () () rfl (Hz (m:=m) y.z hP hC th (.of hu) sk (λq' j z' l=>?_) λe=>by rw[q] at e;cases e)⟩;let y1:=y.go z' l;have T1:=y1.row (i:=i) hi (k:=1) ();have tl:(yp (y.x.D i).mt (y.x.tp i)).length<big:=by rw[Dm];exact k6 (fu (gi (ef ..)) (y.z.K.wf.Jd i)) ()
  have nd:((y1.x.D i).mt.map (·.1)).Nodup:=by show((y.x.D i).mt.map (·.1)).Nodup;rw[Dm];exact(y.z.K.wf.nd i).1
  have n1:=(Nx.refl I).w7 hi (d:=none) (e:=e) (x:=s) z' l y1 rfl nd (λj h=>by cases h) λh=>by cases h
  exact cX T1 tl (Eq.mp (aj (Q (.bool true)) (Y.zB y1 hi s none e nd _)) (hq _ n1))
theorem Pz(y:Y w BX RD)(I:Inv y)(hi:i∈y.x.ids)(hu:i=12\/i=13\/i=14)(sk:s∈bH)(mk:mo∈bH){v4:Op Va}{v:Va}(kv:qS y v (aW y.C i s)){ea a0 a1 a2:Ad}{t:Nat × Nat}{vs:List Va}(he:y.z.P ea=some (.list t (.ref a0::.ref a1::.ref a2::vs)))(h1:lY y a2 836000 [.str mo 0,.str s 0,.ref (y.x.th i),.ref w.W])(hq:∀ y',Nx 0 y y'->Q (.bool true) y'.z.P){N:NP}:
  wpS (m+38) QF (bV 4 eF) (lN y i v4 2 v ea none mo s) y.z.P X N Q:=by
 obtain⟨c,hP,hC⟩:=h1;have D:=I.D i hi;have Dm:(y.x.D i).mt=(y.C.c i).mt:=by rw[D];rfl
 have th:=y.L.th i hi;cases q:aW y.C i s with
 | none=>rw[q] at kv;have kv:v=.none:=kv;subst kv;refine⟨rfl,cC (v:=.ref a2) he () () rfl (HB (m:=m) y.z hP hC th (.of hu) mk sk (λq' e=>by rw[q] at e;cases e) λj z' l=>hq _ ((Nx.refl I).go z' l))⟩
 | some d=>
  rw[q] at kv;obtain⟨e,rfl,k1,k2⟩:=kv;refine⟨rfl,cC (v:=.ref a2) he () () rfl (HB (m:=m) y.z hP hC th (.of hu) mk sk (λq' e' z' l=>?_) λe=>by rw[q] at e;cases e)⟩;have e':d=q':=kr (q.symm.trans e');subst e';let y1:=y.go z' l;have T1:=y1.row (i:=i) hi (k:=1) ();have tl:(yp (y.x.D i).mt (y.x.tp i)).length<big:=by rw[Dm];exact k6 (fu (gi (ef ..)) (y.z.K.wf.Jd i)) ()
  have nd:((y1.x.D i).mt.map (·.1)).Nodup:=by show((y.x.D i).mt.map (·.1)).Nodup;rw[Dm];exact(y.z.K.wf.nd i).1
  have f1:=((Lf.refl y).go z' l).fz e _ k1 rfl k2;have hh:∀ dd,some d=some dd->y1.z.P e=some (.tup [.int dd.1 0,.str dd.2 0])/\y1.z.h e=none/\(y1.x.g e=none\/y1.x.g e=some (9,99)):=λdd h=>by obtain rfl:=kr h;exact⟨f1.1,(y1.L.un _ _ f1.2).1,.inr f1.2⟩
  have n1:=(Nx.refl I).w7 hi (d:=some d) (e:=e) (x:=mo) z' l y1 rfl nd hh λj o j j j g=>by rw[k2] at g;cases g
  exact cX T1 tl (Eq.mp (aj (Q (.bool true)) (Y.zB y1 hi mo (some d) e nd hh)) (hq _ n1))
end
section
variable{m:Nat}{X:XP}{Q:VQ}{s mo:Str}
theorem PA(y:Y w BX RD)(I:Inv y)(hi:i∈y.x.ids)(hu:i=12\/i=13\/i=14)(sk:s∈bH){v4:Op Va}{v:Va}(kv:qS y v (aW y.C i s)){ea a0 a1 a2 a3:Ad}{t:Nat × Nat}{vs:List Va}(he:y.z.P ea=some (.list t (.ref a0::.ref a1::.ref a2::.ref a3::vs)))(h1:lY y a3 837000 [.str s 0,.ref (y.x.th i),.ref w.W])(hq:∀ y',Nx 0 y y'->Q (.bool true) y'.z.P){N:NP}:
  wpS (m+38) QF (bV 4 eF) (lN y i v4 3 v ea none mo s) y.z.P X N Q:=by
 obtain⟨c,hP,hC⟩:=h1;have D:=I.D i hi;have Dm:(y.x.D i).mt=(y.C.c i).mt:=by rw[D];rfl
 have th:=y.L.th i hi;cases q:aW y.C i s with
 | none=>rw[q] at kv;have kv:v=.none:=kv;subst kv;refine⟨rfl,cC (v:=.ref a3) he () () rfl (HC (m:=m) y.z hP hC th (.of hu) sk (λq' e=>by rw[q] at e;cases e) λj z' l=>hq _ ((Nx.refl I).go z' l))⟩
 | some d=>
  rw[q] at kv;obtain⟨e,rfl,k1,k2⟩:=kv;refine⟨rfl,cC (v:=.ref a3) he () () rfl (HC (m:=m) y.z hP hC th (.of hu) sk (λq' e'=>?_) λe=>by rw[q] at e;cases e)⟩;have e':d=q':=kr (q.symm.trans e');subst e';have tl:(yp (y.x.D i).mt (y.x.tp i)).length<big:=by rw[Dm];exact k6 (fu (gi (ef ..)) (y.z.K.wf.Jd i)) ()
  have hgo:∀{C':Cont} (z':Z w C' []),Le y.z z'->z'.P e=some (.tup [.int d.1 0,.str d.2 0]):=λz' l=>(((Lf.refl y).go z' l).fz e _ k1 rfl k2).1
  have upd1:∀(z':Z w (y.C.setM i (cR s (some (d.1,"private")) (y.C.c i).mt)) []) (l:Le y.z z') g (hg:z'.P g=none),Q (.bool true) (upd (upd z'.P g (.tup [.int d.1 0,.str "private" 0])) (y.x.r i 1) (.dict (0,0) (cU s (.ref g) (yp (y.x.D i).mt (y.x.tp i))))):=λz' l g hg=>by
   let z6:=z'.new g (.tup [.int d.1 0,.str "private" 0]) hg;have l6:Le y.z z6:=l.new _ hg;let y6:=y.go z6 l6;have nd:((y6.x.D i).mt.map (·.1)).Nodup:=by show((y.x.D i).mt.map (·.1)).Nodup;rw[Dm];exact(y.z.K.wf.nd i).1
   have g6:y6.x.g g=none:=(y.go z' l).xy hg;have hh:∀ dd,some (d.1,("private":Str))=some dd->y6.z.P g=some (.tup [.int dd.1 0,.str dd.2 0])/\y6.z.h g=none/\(y6.x.g g=none\/y6.x.g g=some (9,99)):=λdd h=>by obtain rfl:=kr h;exact⟨aA ..,z'.un hg,.inl g6⟩
   have n1:=(Nx.refl I).w7 hi (d:=some (d.1,"private")) (e:=g) (x:=s) z6 l6 y6 rfl nd hh λj o p n q r=>by have:=((Lf.refl y).go z' l).fr g o p n q r;rw[show(y.go z' l).z.P g=none from hg] at this;cases this.1
   exact Eq.mp (aj (Q (.bool true)) (Y.zB y6 hi s (some (d.1,"private")) g nd hh)) (hq _ n1)
  have rowN:∀{C':Cont} (z':Z w C' []) (l:Le y.z z') g (hg:z'.P g=none),upd z'.P g (.tup [.int d.1 0,.str "private" 0]) (y.x.r i 1)=some (.dict (0,0) (yp (y.x.D i).mt (y.x.tp i))):=λz' l g hg=>aI ((y.go z' l).row (i:=i) hi (k:=1) ()) hg;have rowO:∀{C':Cont} (z':Z w C' []) (l:Le y.z z'),z'.P (y.x.r i 1)=some (.dict (0,0) (yp (y.x.D i).mt (y.x.tp i))):=λz' l=>(y.go z' l).row (i:=i) hi (k:=1) ();have kg:(aR s (yp (y.x.D i).mt (y.x.tp i))).isSome=((y.C.c i).mt.lookup s).isSome:=by rw[rR,Dm];cases (y.C.c i).mt.lookup s<;>rfl
  by_cases c2:d.2="private"
  ·by_cases cl:(y.C.c i).mt.lookup s=none
   ·rw[ai (.inr cl)]
    intro z' l;refine oH (v:=.str d.2 0) (hgo z' l) () () rfl ?_;refine(bf (c:=!decide (d.2="private")) (by rw[au c2];rfl) (λj=>bW (b:=true) (by rw[inD (dG (rowO z' l)),kg,cl];rfl) ?_));exact oH (v:=.int d.1 0) (hgo z' l) () () rfl ⟨bl,λg hg=>cX (rowN z' l g hg) tl (upd1 z' l g hg)⟩
   ·rw[aa λh=>h.elim (λh=>h c2) cl]
    intro z' l;refine oH (v:=.str d.2 0) (hgo z' l) () () rfl ?_;refine(bf (c:=!decide (d.2="private")) (by rw[au c2];rfl) (λj=>bW (b:=false) (by rw[inD (dG (rowO z' l)),kg,Option.isSome_iff_ne_none.mpr cl];rfl) ?_));exact hq _ ((Nx.refl I).go z' l)
  ·rw[ai (.inl c2)]
   intro z' l;refine oH (v:=.str d.2 0) (hgo z' l) () () rfl ?_;refine bt (c:=!decide (d.2="private")) (by rw[av c2];rfl) ?_;exact oH (v:=.int d.1 0) (hgo z' l) () () rfl ⟨bl,λg hg=>cX (rowN z' l g hg) tl (upd1 z' l g hg)⟩
end
section
variable{m:Nat}{X:XP}{Q:VQ}{s mo:Str}
theorem CQ(y:Y w BX RD)(I:Inv y)(hi:i∈y.x.ids)(hu:i=12\/i=13\/i=14)(sk:s∈bH)(mk:mo∈bH){d:Int}(hd:0<=d/\d<4){v4:Op Va}{v:Va}(kv:qS y v (aW y.C i s)){ea a0 a1 a2 a3:Ad}{t:Nat × Nat}(he:y.z.P ea=some (.list t [.ref a0,.ref a1,.ref a2,.ref a3]))
  (h0:lY y a0 833000 [.str s 0,.ref (y.x.th i),.ref w.W]) (h1:lY y a1 834000 [.str s 0,.ref (y.x.th i),.ref w.W]) (h2:lY y a2 836000 [.str mo 0,.str s 0,.ref (y.x.th i),.ref w.W]) (h3:lY y a3 837000 [.str s 0,.ref (y.x.th i),.ref w.W]) (hq:∀ y',Nx 0 y y'->Q (.bool true) y'.z.P) {N:NP}:
  wpS (m+38) QF (bV 4 eF) (lN y i v4 d v ea none mo s) y.z.P X N Q:=by
 obtain h|h|h|h:d=0\/d=1\/d=2\/d=3:=VZ hd.1 hd.2
 ·subst h;exact Px y I hi hu sk he h0 hq
 ·subst h;exact Py y I hi hu sk kv he h1 hq
 ·subst h;exact Pz y I hi hu sk mk kv he h2 hq
 ·subst h;exact PA y I hi hu sk kv he h3 hq
theorem FJ(y:Y w BX RD)(I:Inv y)(hi:i∈y.x.ids)(hu:i=12\/i=13\/i=14)(sk:s∈bH)(mk:mo∈bH){d:Int}(hd:0<=d/\d<4){v4:Op Va}{v:Va}(kv:qS y v (findD y.x.D s (iN y.x.D i)))(hq:∀ y',Nx 0 y y'->Q (.bool true) y'.z.P){N:NP}:
  wpS (m+38) QF (bV 2 eF) (some (.ref BX)::some (.ref w.W)::some (.ref RD)::some (.str (fE i) 0)::v4::some (.int d 0)::some v::some (.ref (y.x.r i 1))::none::none::some (.str mo 0)::some (.str s 0)::some (.ref (y.x.th i))::nN 3) y.z.P X N Q:=by
 have hk:∀ k:Nat,sq k=true->dP k=1122\/dP k=1164:=λk h=>.inl (ai h);refine⟨rfl,[.str s 0,.ref (y.x.th i),.ref w.W],rfl,IM 833000 y I (hk _ rfl) λy1 a0 m1 p0=>⟨rfl,[.str s 0,.ref (y.x.th i),.ref w.W],rfl,IM 834000 y1 m1.n.I (hk _ rfl) λy2 a1 m2 p1=>⟨bl,λe1 he1=>?_⟩⟩⟩;let y3:=y2.go (y2.z.new e1 (.list (0,0) [.ref a0,.ref a1]) he1) ((Le.refl y2.z).new _ he1);have m3:t8 y2 y3:=⟨(Nx.refl m2.n.I).go _ _,⟨y2.x.g,rfl⟩,λb o h q=>(Pu.refl _).new _ he1 b o h⟩
 refine⟨rfl,[.str mo 0,.str s 0,.ref (y.x.th i),.ref w.W],rfl,IM 836000 y3 m3.n.I (hk _ rfl) λy4 a2 m4 p2=>⟨rfl,[.str s 0,.ref (y.x.th i),.ref w.W],rfl,IM 837000 y4 m4.n.I (hk _ rfl) λy5 a3 m5 p3=>⟨bl,λe2 uX=>?_⟩⟩⟩;have l1:=m5.P _ _ (m4.P _ _ (show y3.z.P e1=some (.list (0,0) [.ref a0,.ref a1]) from aA ..) λq e=>(by cases e)) λq e=>(by cases e)
 refine Hh (aI l1 uX) (aA ..) ⟨bl,bl⟩ λe3 he3=>?_;let y6:=y5.go (y5.z.new e2 (.list (0,0) [.ref a2,.ref a3]) uX) ((Le.refl y5.z).new _ uX);have IA:y6.z.P e3=none:=he3;let y7:=y6.go (y6.z.new e3 (.list (0,0) [.ref a0,.ref a1,.ref a2,.ref a3]) IA) ((Le.refl y6.z).new _ IA);have m7:t8 y5 y7:=⟨((Nx.refl m5.n.I).go (y5.z.new e2 (.list (0,0) [.ref a2,.ref a3]) uX) ((Le.refl y5.z).new _ uX)).go (y6.z.new e3 (.list (0,0) [.ref a0,.ref a1,.ref a2,.ref a3]) IA) ((Le.refl y6.z).new _ IA),⟨y5.x.g,rfl⟩,λb o h q=>((Pu.refl _).new _ uX).new _ IA b o h⟩
 have m27:=((m3.trans m4).trans m5).trans m7;have M:=(m1.trans m2).trans m27;obtain⟨g,eg⟩:=M.x;have hi7:i∈y7.x.ids:=by rw[eg];exact hi
 have tv:qS y7 v (aW y7.C i s):=by rw[AL M.n.I hi7 hu];have:=kv.RK M.n.f;rw[eg];exact this
 have eth:y7.x.th i=y.x.th i:=by rw[eg]
 have er:y7.x.r i 1=y.x.r i 1:=by rw[eg]
 have fin:=CQ (m:=m) (X:=X) (Q:=Q) (v4:=v4) (N:=N) y7 M.n.I hi7 hu sk mk hd tv (aA ..) (eth▸(m2.trans m27).at p0) (eth▸m27.at p1) (eth▸(m5.trans m7).at p2) (eth▸m7.at p3) λy' n=>hq y' (M.n.trans n);unfold lN at fin;rw[eth,er] at fin;exact fin
theorem Av(y:Y w BX RD)(I:Inv y)(hb:y.x.bx.2<2^29)(hi:i∈y.x.ids)(hu:i=12\/i=13\/i=14){t:Va}(hq:∀ y',Nx 3 y y'->Q (.bool true) y'.z.P):Calls (m+39) 1127 [.ref BX,.ref w.W,.ref RD,.str (fE i) 0,t] y.z.P X Q:=by
 refine fU 95 rfl rfl rfl ⟨bl,λe1 he1=>draw (m:=m+37) y I (iz hb ()) ["x","y","z"] rfl () rfl he1 λd1 s y1 hs n1 f1 h1 g1=>cC f1 h1.1 h1.2 g1 ⟨bl,λe2 uX=>draw (m:=m+37) y1 n1.I (Q4 n1.bx hb ()) ["x","w"] rfl () rfl uX λd2 mo y2 hm n2 f2 h2 g2=>cC f2 h2.1 h2.2 g2 (xQ (m:=m+37) y2 n2.I (Q4 (TZ n1.bx n2.bx) hb ()) (n:=4) () λd3 b0 b1 y3 n3=>⟨bl,λe he=>nZ (aA ..) ⟨rfl,?_⟩⟩)⟩⟩;have sk:s∈bH:=(by decide +kernel:∀ s∈(["x","y","z"]:List Str),s∈bH) s hs;have mk:mo∈bH:=(by decide +kernel:∀ s∈(["x","w"]:List Str),s∈bH) mo hm;let z4:=((y3.z.new e (.tup [.str s 0,.str mo 0,.int d3 0]) he).drop).drop;have l4:Le y3.z z4:=(((Le.refl y3.z).new _ he).drop).drop;let y4:=y3.go z4 l4;have n4:Nx 3 y y4:=((n1.trans n2).trans n3).go z4 l4;have hi4:i∈y4.x.ids:=by rw[n4.ids];exact hi
 have iu:=I.O.ids i hi;refine r9 (m:=m+35) y4 n4.I.O hi4 λz5 v l5 hv=>?_;let y5:=y4.go z5 l5;have r0:=y5.row (i:=i) hi4 (k:=0) ()
 refineλq=>aO (v:=.ref (y4.x.r i 0)) y5.L.rows (bC iu n4.I.O.ids hi4) λq=>aO (v:=.ref (y4.x.th i)) r0 rfl λq=>aO (v:=.ref (y4.x.r i 0)) y5.L.rows (bC iu n4.I.O.ids hi4) λq=>aO (v:=.ref (y4.x.r i 1)) r0 rfl ⟨bl,λf hf=>nZ (aA ..) ⟨rfl,?_⟩⟩
 let z6:=(z5.new f (.tup [v,.ref (y4.x.th i),.ref (y4.x.r i 1)]) hf).drop;have l6:Le y5.z z6:=((Le.refl z5).new _ hf).drop;let y6:=y5.go z6 l6;have n6:Nx 3 y y6:=(n4.go z5 l5).go z6 l6;exact FJ (m:=m) (v4:=some t) y6 n6.I hi4 hu sk mk ⟨b0,b1⟩ (hv.RK ((Lf.refl y5).go z6 l6)) λy' n=>hq (y'.go y'.z.drop (Le.refl y'.z).drop) ((n6.trans n).go _ _)
end
section
structure Rd(y y':Y w BX RD):Prop where
 n:Nx 0 y y'
 x:∃ g,y'.x={ y.x with g:=g }
section
variable{m:Nat}{X:XP}{Q:VQ}{s mo:Str}{e:Ad}
theorem Rd.refl(y:Y w BX RD)(I:Inv y):Rd y y:=⟨.refl I,_,rfl⟩
theorem Rd.trans{y y' y'':Y w BX RD}(a:Rd y y')(b:Rd y' y''):Rd y y'':=by obtain⟨g,e⟩:=a.x;obtain⟨g',e'⟩:=b.x;exact⟨a.n.trans b.n,g',by rw[e',e]⟩
theorem Rd.go{y0 y:Y w BX RD}(a:Rd y0 y)(z':Z w y.C [])(l:Le y.z z'):Rd y0 (y.go z' l):=⟨a.n.go z' l,a.x⟩
theorem t8.rd{y y':Y w BX RD}(a:t8 y y'):Rd y y':=⟨a.n,a.x⟩
noncomputable abbrev BU:List Bool:=[true,true,false,false,false,false,false,false,false,false,true,true,false,false,false,false,false,false,false,false,false,false,false,false]
noncomputable def Ho:U:=match jS with
 | .seq (.loop _ _ b) _=>b
 | _=>.skip
noncomputable def Pq:U->U
 | .seq (.loop _ _ b) _=>b
 | _=>.skip
noncomputable def lQ(w:Wc)(RD:Ad)(e:Ad)(i:Nat)(rw:Ad)(v4 v5 v6 v7 v8 v9 v11:Op Va):Lv:=(some (.ref w.W)::some (.ref RD)::some (.ref e)::some (.str (fE i) 0)::v4::v5::v6::v7::v8::v9::some (.ref rw)::v11::nN 12)
theorem VI(y:Y w BX RD)(I:Inv y)(hi:i∈y.x.ids)(hu:i=12\/i=13\/i=14){v4 v5 v6 v7 v8 v9 v11:Op Va}{N:NP}(hq:∀ y',Rd y y'->N (lQ w RD e i (y.x.r i 0) v4 v5 v6 v7 v8 v9 v11) y'.z.P):
  wpS (m+1) BU (bV 6 Ho) (lQ w RD e i (y.x.r i 0) v4 v5 v6 v7 v8 v9 v11) y.z.P X N Q:=by
 have r0:=y.row hi (k:=0) ();have th:=y.L.th i hi
 have k:∀{C:Cont} {p:Nat},par i=some p->p=12->nX i=.str "B" 0->wpS (m+1) BU (bV 6 Ho) (lQ w RD e i (y.x.r i 0) v4 v5 v6 v7 v8 v9 v11) y.z.P X N Q:=λ{_ p} hp p12 hs=>by
  subst p12;have hb:=y.L.th 12 I.O.b.1
  refineλq=>aO (v:=.str "B" 0) r0 (by show some (nX i)=_;rw[hs]) ⟨rfl,λq=>aO (v:=.ref (y.x.th i)) r0 rfl ⟨bl,λf hf=>?_⟩⟩
  let z1:=y.z.new f (.list (0,0) []) hf;have l1:Le y.z z1:=(Le.refl y.z).new _ hf;let y1:=y.go z1 l1;refine uy (m:=m) z1 th hp hb (aG (v:=.int (z1.A.num 12) 0) (z1.at_ hb nn) rfl rfl rfl λq=>aO (v:=.str "B" 0) (y1.row (i:=i) hi (k:=0) ()) (by show some (nX i)=_;rw[hs]) λq=>aO (v:=.ref (y.x.r 12 0)) y1.L.rows (bC (j:=12) ⋯ I.O.ids I.O.b.1) λq=>aO (v:=.ref (y.x.th 12)) (y1.row (i:=12) I.O.b.1 (k:=0) ()) rfl (aG (v:=.int (z1.A.num 12) 0) (z1.at_ hb nn) rfl rfl rfl ?_));exact bf (c:=!decide (z1.A.num 12=z1.A.num 12)) (by rw[au rfl];rfl) (hq y1 ((Rd.refl y I).go z1 l1))
 rcases hu with rfl|rfl|rfl
 ·exactλq=>aO (v:=.none) r0 rfl ⟨rfl,hq y (.refl y I)⟩
 ·exact k (C:=y.C) rfl rfl rfl
 ·exact k (C:=y.C) rfl rfl rfl
end
end
section
variable{m:Nat}{X:XP}{Q:VQ}{s mo:Str}{e:Ad}
theorem yy(y:Y w BX RD)(O:B3 y.x)(hi:i∈y.x.ids){o:Op Int}(ho:o=kU y.x.D x (iN y.x.D i))(hq:∀(z':Z w y.C []),Le y.z z'->Q (QJ o) z'.P):Calls (m+3) 1155 [.ref RD,.str (fE i) 0,.str x 0] y.z.P X Q:=As y O hi (ho▸hq)
theorem pW(y:Y w BX RD)(O:B3 y.x)(hi:i∈y.x.ids){o:Op Int}(ho:o=iH y.x.D x i)(hq:Q (UA o) y.z.P):Calls (m+1) 1162 [.ref RD,.str (fE i) 0,.str x 0] y.z.P X Q:=Ar y O hi (ho▸hq)
theorem TY(y:Y w BX RD)(I:Inv y)(hi:i∈y.x.ids)(hu:i=12\/i=13\/i=14){o:Op Int}(ho:o=Cn y.C i s){v4 v5 v6 v7 v9:Op Va}{N:NP}(hq:∀ y' v8 v9,Rd y y'->N (lQ w RD e i (y.x.r i 0) v4 v5 v6 v7 v8 v9 (some (.str s 0))) y'.z.P):
  wpS (m+39) BU (bV 1 (Pq (bV 5 Ho))) (lQ w RD e i (y.x.r i 0) v4 v5 v6 v7 (some (QJ o)) v9 (some (.str s 0))) y.z.P X N Q:=by
 have r0:=y.row hi (k:=0) ();have th:=y.L.th i hi;refine aU y.z.K.W Tq.1 (by rw[Tq.2];trivial) λj=>aO (v:=.ref (y.x.th i)) r0 rfl (HD (m:=m+36) y.z I.L th (.of hu) λd hd=>yx (m:=m+19) y.z hd λz1 v s1 hv=>?_);let y1:=y.go z1 s1.le;refine yy (m:=m+36) y1 I.O hi (ho.trans (Ox I hi hu)) λz2 l2=>?_;let y2:=y1.go z2 l2;have al:=Ml (x:=s) I hi hu;have fin:Rd y y2:=(((Rd.refl y I).go z1 s1.le).go z2 l2)
 rcases o with _|t
 rotate_left;refine bf (c:=!decide (t=t)) (by rw[au rfl];rfl) ?_
 all_goals
  cases q:aW y.C (zw y.C i) s with
  | none=>
   rw[q] at hv al;have hv:v=.none:=hv;subst hv
   have an:none=iH y.x.D s i:=by
    cases r:iH y.x.D s i with
    | none=>rfl
    | some t=>rw[r] at al;cases al
   exact⟨rfl,pW (m:=m+38) y2 I.O hi an (hq y2 _ _ fin)⟩
  | some d=>
   rw[q] at hv al;obtain⟨f,r,rfl,h1,h2⟩:=hv
   have an:some d.1=iH y.x.D s i:=by
    cases r:iH y.x.D s i with
    | none=>rw[r] at al;cases al
    | some t=>rw[r] at al;obtain rfl:=kr al;rfl
   exact⟨rfl,aG (v:=.int d.1 0) (l2.fr f _ h1 rfl (.inr ⟨_,h2⟩)).1 rfl rfl rfl (pW (m:=m+38) y2 I.O hi an (bf (c:=!decide (d.1=d.1)) (by rw[au rfl];rfl) (hq y2 _ _ fin)))⟩
theorem VJ(y:Y w BX RD)(I:Inv y)(hi:i∈y.x.ids)(hu:i=12\/i=13\/i=14)(hx:KL s){v4 v5 v6 v7 v8 v9:Op Va}{N:NP}(hq:∀ y' v8 v9,Rd y y'->N (lQ w RD e i (y.x.r i 0) v4 v5 v6 v7 v8 v9 (some (.str s 0))) y'.z.P):
  wpS (m+39) BU (Pq (bV 5 Ho)) (lQ w RD e i (y.x.r i 0) v4 v5 v6 v7 v8 v9 (some (.str s 0))) y.z.P X N Q:=by
 refine⟨rfl,[.ref (y.x.r i 0),.str s 0,.ref w.W],rfl,IM 907026 y I (.inr (aa ())) λy1 a m1 p1=>?_⟩;obtain⟨c,hP,hC⟩:=p1;obtain⟨g,eg⟩:=m1.x;have hi1:i∈y1.x.ids:=by rw[eg];exact hi
 have er:y1.x.r i 0=y.x.r i 0:=by rw[eg]
 have I1:=m1.n.I;have r1:y1.z.P (y.x.r i 0)=_:=er▸y1.row hi1 (k:=0) ();have th1:=y1.L.th i hi1;have i1:i≠1:=by lia
 have call:∀{z:Z w y1.C []} (l:Le y1.z z) {X:XP} {Q:VQ},(∀ v,Cn y1.C i s=some v->∀ z':Z w y1.C [],Le y1.z z'->Q (.int v 0) z'.P)->(Cn y1.C i s=none->Raises z X)->∀ f,z.P f=none->Calls (m+37) 733 [.ref w.W,.ref (y1.x.th i),.ref f] (upd z.P f (.list (0,0) [.str s 0])) X Q:=λ{z} l {X Q} h1 h2 f hf=>pX (m:=m) (z.new f (.list (0,0) [.str s 0]) hf) (l.ad i _ th1).1 (.of hu) hx i1 (aA ..) (λv e z' l'=>h1 v e z' ((l.new _ hf).trans l')) λe z' x l' he=>h2 e z' x (((Le.refl z).new _ hf).trans l') he;have rest:∀(z:Z w y1.C []) (l:Le y1.z z) {v9},wpS (m+39) BU (bV 1 (Pq (bV 5 Ho))) (lQ w RD e i (y.x.r i 0) v4 v5 v6 v7 (some (QJ (Cn y1.C i s))) v9 (some (.str s 0))) z.P X N Q:=λz l {v9}=>er▸TY (y1.go z l) (I1.go z l) hi1 hu rfl λy' v8 v9 d=>er.symm▸hq y' v8 v9 ((m1.rd.go z l).trans d);cases q:Cn y1.C i s with
 | none=>
  rw[q] at rest;refine fW (m:=m+38) (C:=y1.C) hP (iT (ql wd.params) hP hC ?_)
  refineλj=>aO (v:=.ref (y1.x.th i)) r1 rfl ⟨bl,λf hf=>?_⟩
  refine Calls.mono (call (Le.refl _) (Q:=λj P'=>False) (X:=λee P'=>∃ z':Z w y1.C [],P'=z'.P/\xA z' ee/\_) (λv e=>by rw[q] at e;cases e) (λj z' ee l he=>⟨z',rfl,he,?_⟩) f hf) (by lia) (λj j h=>h) λj j h=>h.elim;exact rest z' l
 | some v=>
  rw[q] at rest;refine fW (m:=m+38) (C:=y1.C) hP (iT (ql wd.params) hP hC ?_)
  refineλj=>aO (v:=.ref (y1.x.th i)) r1 rfl ⟨bl,λf hf=>Calls.mono (call (Le.refl _) (λv e z2 l2=>?_) (λe=>by rw[q] at e;cases e) f hf) (by lia) (λj j h=>h) λj j h=>h⟩
  let y2:=y1.go z2 l2
  refineλj=>aO (v:=.ref (y1.x.th i)) (er▸y2.row (i:=i) hi1 (k:=0) ()) rfl ⟨bl,λf hf=>Calls.mono (call l2 (λv' e' z3 l3=>?_) (λe=>by rw[q] at e;cases e) f hf) (by lia) (λj j h=>h) λj j h=>h⟩
  rw[q] at e';obtain rfl:=kr e';exact rest z3 l3
end
section
variable{m:Nat}{X:XP}{Q:VQ}{s mo:Str}{e:Ad}
theorem Us{R:Bool->Prop}{Ph:PH}{a b:Ad}{vs us:List Va}(h:Ph a=some (.tup vs))(h':Ph b=some (.tup us))(he:o8 vs us=some true)(hq:R false):(match PD (Ph a) (Ph b) with
 | some b=>R b
 | none=>False):=by
 have e:PD (Ph a) (Ph b)=some false:=by rw[h,h'];show(o8 vs us).map (!·)=_;rw[he];rfl
 rw[e];exact hq
theorem PB{R:Bool->Prop}{Ph:PH}{a b:Ad}{t u:Nat × Nat}{vs us:List Va}(h:Ph a=some (.list t vs))(h':Ph b=some (.list u us))(hl:vs.length=us.length)(he:o8 vs us=some true)(hq:R false):(match PD (Ph a) (Ph b) with
 | some b=>R b
 | none=>False):=by
 have e:PD (Ph a) (Ph b)=some false:=by rw[h,h'];show(if vs.length=us.length then(o8 vs us).map (!·) else some true)=_;rw[ai hl,he];rfl
 rw[e];exact hq
def EK(y:Y w BX RD)(f:Ad)(i:Nat):Prop:=∃ num fd,y.z.P f=some (.inst 40 (Km num (y.x.th i) fd))/\y.z.h f=none/\y.x.g f=none
theorem EK.rd{y y':Y w BX RD}{f:Ad}(h:EK y f i)(d:Rd y y'):EK y' f i:=by obtain⟨num,fd,h1,h2,h3⟩:=h;obtain⟨g,e⟩:=d.x;have t:=d.n.f.fr f _ h1 rfl h2 h3;exact⟨num,fd,by rw[t.1,e],t.2⟩
theorem VK(y:Y w BX RD)(I:Inv y)(hi:i∈y.x.ids)(hu:i=12\/i=13\/i=14){f:Ad}(ht:EK y f i){v4 v6 v7 v8 v9:Op Va}{N:NP}(hq:∀ y' v6 v7,Rd y y'->N (lQ w RD e i (y.x.r i 0) v4 (some (.ref f)) v6 v7 v8 v9 (some (.str s 0))) y'.z.P):
  wpS (m+39) BU (Pq (bV 4 Ho)) (lQ w RD e i (y.x.r i 0) v4 (some (.ref f)) v6 v7 v8 v9 (some (.str s 0))) y.z.P X N Q:=by
 refine r9 (m:=m+36) y I.O hi λz1 v l1 hv=>?_;let y1:=y.go z1 l1;have hi1:i∈y1.x.ids:=hi;have th1:=y1.L.th i hi1
 refineλj=>aO (v:=.ref (y.x.th i)) (y1.row (i:=i) hi1 (k:=0) ()) rfl (yx (m:=m+19) z1 th1 λz2 u s2 hu2=>yC (m:=m+38) hu2 λP3 u3 p3 hm=>?_)
 let z3:=z2.pu P3 p3;have l3:Le z1 z3:=s2.le.pu P3 p3;let y3:=y1.go z3 l3;have fl:=AL (x:=s) I hi hu;have R3:Rd y y3:=((Rd.refl y I).go z1 l1).go z3 l3;obtain⟨num,fd,ht1,ht2,ht3⟩:=ht.rd R3;have th3:=y3.L.th i hi1;cases q:findD y.x.D s (iN y.x.D i) with
 | none=>
  rw[q] at hv fl;have hv:v=.none:=hv;subst hv;have hm:Tz P3 u3 (aW y.C i s):=hm;rw[fl] at hm;have hm:u3=.none:=hm;subst hm;refine⟨bl,λa ha=>uF (m:=m+17) (z3.new a (.list (0,0) [.str s 0]) ha) th3 (aI ht1 ha) (aA ..) λz4 s4=>⟨bl,λb hb=>?_⟩⟩;have l4:Le z3 z4:=((Le.refl z3).new _ ha).trans s4.le;let y4:=y3.go z4 l4;have R4:Rd y y4:=R3.go z4 l4;obtain⟨num',fd',hu1,hu2,hu3⟩:=ht.rd R4;refine uG (m:=m+17) (z4.new b (.list (0,0) [.str s 0,.bool true]) hb) (y4.L.th i hi1) (aI hu1 hb) (aA ..) λz5 s5=>⟨bl,λc hc=>?_⟩
  have l5:Le z4 z5:=((Le.refl z4).new _ hb).trans s5.le;refine⟨rfl,rfl,bl,λc' hc'=>?_⟩;let z6:=z5.new c (.list (0,0) [.bool (seen false (aW y.C i s)),.bool (seen true (aW y.C i s))]) hc;have l6:Le z4 (z6.new c' (.list (0,0) [.bool false,.bool false]) hc'):=(l5.new _ hc).new _ hc';refine PB (aI (aA ..) hc') (aA ..) rfl ?_ (hq _ _ _ (R4.go (z6.new c' (.list (0,0) [.bool false,.bool false]) hc') l6));show o8 [.bool (seen false (aW y.C i s)),.bool (seen true (aW y.C i s))] _=_;rw[fl];rfl
 | some d=>
  rw[q] at hv fl;obtain⟨k,rfl,k1,k2⟩:=hv;have hm:Tz P3 u3 (aW y.C i s):=hm;rw[fl] at hm;obtain⟨k',rfl,k3⟩:=hm;have k1':=(((Lf.refl y1).go z3 l3).fz k _ k1 rfl k2).1;refine Us k3 k1' (by show some (decide (d.1=d.1)&&(decide (d.2=d.2)&&true))=_;rw[au rfl,au rfl];rfl) ⟨bl,λa ha=>uF (m:=m+17) (z3.new a (.list (0,0) [.str s 0]) ha) th3 (aI ht1 ha) (aA ..) λz4 s4=>⟨bl,λb hb=>?_⟩⟩;have l4:Le z3 z4:=((Le.refl z3).new _ ha).trans s4.le;let y4:=y3.go z4 l4;have R4:Rd y y4:=R3.go z4 l4;obtain⟨num',fd',hu1,hu2,hu3⟩:=ht.rd R4;refine uG (m:=m+17) (z4.new b (.list (0,0) [.str s 0,.bool true]) hb) (y4.L.th i hi1) (aI hu1 hb) (aA ..) λz5 s5=>⟨bl,λc hc=>?_⟩
  have l5:Le z4 z5:=((Le.refl z4).new _ hb).trans s5.le;let z6:=z5.new c (.list (0,0) [.bool (seen false (aW y.C i s)),.bool (seen true (aW y.C i s))]) hc;have l6:Le z4 z6:=l5.new _ hc;have k4:=(((Lf.refl y1).go z3 l3).fz k _ k1 rfl k2)
  have k5:z6.P k=some (.tup [.int d.1 0,.str d.2 0]):=(((Lf.refl y3).go z4 l4).go z6 l6).fz k _ k4.1 rfl k4.2 |>.1
  refine⟨rfl,oH (v:=.str d.2 0) k5 () () rfl ⟨rfl,bl,λc' hc'=>?_⟩⟩;refine PB (aI (aA ..) hc') (aA ..) rfl ?_ (hq _ _ _ (R4.go (z6.new c' (.list (0,0) [.bool (decide (d.2="public")),.bool true]) hc') (l6.new _ hc')));show o8 [.bool (seen false (aW y.C i s)),.bool (seen true (aW y.C i s))] _=_;rw[fl];show some ((decide (d.2="public"))==(decide (d.2="public"))&&(true&&true))=_;rw[bg];rfl
end
section
variable{m:Nat}{X:XP}{Q:VQ}{s mo:Str}{e:Ad}
theorem IU{α:Type}{step:Va->PH->(Op Va->PH->Prop)->Prop}{guard:PH->Prop}{Ph:PH}{k:List Va->PH->Prop}(f g:α->Va)(hg:guard Ph):∀(l:List α) (acc:List Va),(∀ j∈l,∀ r:Op Va->PH->Prop,r (some (g j)) Ph->step (f j) Ph r)->k (acc++l.map g) Ph->xZ step guard (l.map f) acc Ph k:=by
 intro rr;induction rr with
 | nil=>exactλacc q h=>by rw[List.map_nil,jk] at h;exact h
 | cons j l ih=>exactλacc hs h=>hs j (.head _) _ ⟨hg,ih (acc++[g j]) (λy hy=>hs y (.tail _ hy)) (by rw[i0];exact h)⟩
theorem Ic(f:Nat->Int):∀ l:List Nat,o8 (l.map λj=>.int (f j) 0) (l.map λj=>.int (f j) 0)=some true:=by
 intro rr;induction rr with
 | nil=>exact rfl
 | cons j l ih=>show(Option.map (decide (f j=f j)&&·) (o8 (l.map λj=>.int (f j) 0) (l.map λj=>.int (f j) 0)))=_;rw[ih,au rfl];rfl
theorem N6{R:List Va->Prop}{Ph:PH}{a:Ad}{t:Nat × Nat}{vs:List Va}{k:Int}(h:rd Ph a=some (.list t vs))(hl:vs.length<big/\0<=k/\k<big)(hq:R vs):(match rd Ph a with
 | some (.list _ vs)=>(vs.length<big/\0<=k/\k<big)/\R vs
 | _=>False):=by rw[h];exact⟨hl,hq⟩
theorem KW(y:Y w BX RD)(I:Inv y)(hi:i∈y.x.ids)(hu:i=12\/i=13\/i=14){v4 v5 v6 v7 v8 v9 v11:Op Va}{N:NP}(hq:∀ y' a,Rd y y'->wpS (m+39) BU (bV 3 Ho) (lQ w RD e i (y.x.r i 0) (some (.ref a)) v5 v6 v7 v8 v9 v11) y'.z.P X N Q):
  wpS (m+39) BU (bV 1 Ho) (lQ w RD e i (y.x.r i 0) v4 v5 v6 v7 v8 v9 v11) y.z.P X N Q:=by
 have r0:=y.row hi (k:=0) ();have th:=y.L.th i hi;have iu:=I.O.ids i hi
 refineλq=>aO (v:=.ref (y.x.th i)) r0 rfl ⟨bl,λf hf=>?_⟩
 let z0:=y.z.new f (.list (0,0) []) hf;have l0:Le y.z z0:=(Le.refl y.z).new _ hf;refine wL (m:=m+8) z0 th λz1 e1 num b fd l l1 h1 hl hx=>?_;have ln:((aX y.C i).map λj=>Value.int (y.z.A.num j) 0).length<big:=by rw[ef];exact k6 (kJ y.z.K.wf 12 i) ()
 have le:z0.A.dD (aX y.C i)=(aX y.C i).map λj=>y.z.A.rf (some j):=rfl;rw[le] at hl;have ln':((aX y.C i).map λj=>y.z.A.rf (some j)).length<big:=by rw[ef];exact k6 (kJ y.z.K.wf 12 i) ()
 refine aG (v:=.ref l) h1 rfl rfl rfl λq=>Fq hl ln' (IU (λj=>y.z.A.rf (some j)) (λj=>.int (y.z.A.num j) 0) (λq=>dG hl) (aX y.C i) [] (λj hj r hr=>?_) λa ha=>?_)
 ·obtain⟨b,hb⟩:=hx j hj
  have hb:y.z.A.ad j=some b:=hb;rw[aQ hb];have n:=(l0.trans l1).ad j b hb;exact aG (v:=.int (y.z.A.num j) 0) (z1.at_ n.1 nn) rfl (by show some (Value.int (z1.A.num j) 0)=_;rw[n.2]) rfl hr
 let z2:=z1.new a (.list (0,0) ([]++(aX y.C i).map λj=>.int (y.z.A.num j) 0)) ha;have l2:Le y.z z2:=(l0.trans l1).new _ ha;have ua:z2.h a=none:=z1.un ha;let y2:=y.go z2 l2;refine kQ (m:=m+37) y2 I.O hi λz3 n l3 un nw h3=>IV h3 (by rw[cQ];exact k6 (mK I.O i) ()) ?_;have a3:=(l3.fr a _ (aA ..) rfl (.inl ua)).1
 refineλq=>N6 (dG a3) ⟨ln,by lia,?_⟩ λb hb=>?_
 ·rw[cQ];exact Int.ofNat_lt.mpr (k6 (mK I.O i) ())
 let z4:=z3.new b (.list (0,0) (([]++(aX y.C i).map λj=>Value.int (y.z.A.num j) 0).take (Int.toNat (fS (iN y.x.D i)).length))) hb;have l4:Le z2 z4:=l3.new _ hb;have ub:z4.h b=none:=z3.un hb;let y4:=y2.go z4 l4;refine kQ (m:=m+37) y4 I.O hi λz5 n2 l5 un2 nw2 h5=>?_;let y5:=y4.go z5 l5
 refineλq=>Fq h5 (by rw[cQ];exact k6 (mK I.O i) ()) (IU (λj=>.str (fE j) 0) (λj=>.int (y.z.A.num j) 0) (λq=>dG h5) (iN y.x.D i) [] (λj hj r hr=>?_) λc hc=>?_)
 ·have ij:j∈y5.x.ids:=mJ I.O hi j hj
  have n:=(l2.trans (l4.trans l5)).ad j _ (y.L.th j ij)
  exactλq=>aO (v:=.ref (y5.x.r j 0)) y5.L.rows (bC (I.O.ids j ij) I.O.ids ij) λq=>aO (v:=.ref (y5.x.th j)) (y5.row (i:=j) ij (k:=0) ()) rfl (aG (v:=.int (y.z.A.num j) 0) (z5.at_ (y5.L.th j ij) nn) rfl (by show some (Value.int (z5.A.num j) 0)=_;rw[n.2]) rfl hr)
 have b5:=(l5.fr b _ (aA ..) rfl (.inl ub)).1;have et:(([]++(aX y.C i).map λj=>Value.int (y.z.A.num j) 0).take (Int.toNat (fS (iN y.x.D i)).length))=(iN y.x.D i).map λj=>.int (y.z.A.num j) 0:=by rw[vj I hi hu,cQ,kq,i8];exact List.take_left' (ef ..)
 rw[et] at b5;refine PB (aI b5 hc) (aA ..) rfl ?_ (hq _ a (((Rd.refl y I).go z2 l2).go (z5.new c (.list (0,0) ([]++(iN y.x.D i).map λj=>Value.int (y.z.A.num j) 0)) hc) ((l4.trans l5).new _ hc)));exact Ic y.z.A.num (iN y.x.D i)
end
section
variable{m:Nat}{X:XP}{Q:VQ}{s mo:Str}{e:Ad}
theorem D9{body:U}{ra:Ad}{v4 v5:Op Va}{y0:Y w BX RD}{o:PO}{a:Ad}{S:Str->Prop}{N:NP}(no:o.bR=false)
  (hb:∀(y:Y w BX RD) s v6 v7 v8 v9,S s->Rd y0 y->∀ K:NP,(∀ y' v6 v7 v8 v9,Rd y y'->K (lQ w RD e i ra v4 v5 v6 v7 v8 v9 (some (.str s 0))) y'.z.P)->wpS m BU body (lQ w RD e i ra v4 v5 v6 v7 v8 v9 (some (.str s 0))) y.z.P X K Q)
  (hN:∀ y v6 v7 v8 v9 v11,Rd y0 y->N (lQ w RD e i ra v4 v5 v6 v7 v8 v9 v11) y.z.P):∀(ts:List Str) (y:Y w BX RD) v6 v7 v8 v9 v11,(∀ s∈ts,S s)->Rd y0 y->(y.z.P a=some o/\y.z.h a=none/\y.x.g a=none)->cM (λv l P' k=>wpS m BU body (l.set 11 (some v)) (kD BU 11 P') X k Q) (λP'=>P' a=some o) (ts.map λs=>.str s 0) (lQ w RD e i ra v4 v5 v6 v7 v8 v9 v11) y.z.P N:=by
 intro rr;induction rr with
 | nil=>exactλy v6 v7 v8 v9 v11 q d q=>hN y v6 v7 v8 v9 v11 d
 | cons s ts ih=>exactλy v6 v7 v8 v9 q hs d h=>hb (y.go y.z.drop (Le.refl y.z).drop) s v6 v7 v8 v9 (hs s (.head _)) (d.go _ _) _ λy' v6 v7 v8 v9 d'=>
  have f:=(((Lf.refl y).go y.z.drop (Le.refl y.z).drop).trans d'.n.f).fr a o h.1 no h.2.1 h.2.2
  ⟨f.1,ih y' v6 v7 v8 v9 _ (λs hs'=>hs s (.tail _ hs')) ((d.go y.z.drop (Le.refl y.z).drop).trans d') f⟩
theorem Rd.hi{y y':Y w BX RD}(d:Rd y y'):y'.x.ids=y.x.ids:=d.n.ids
theorem Rd.r{y y':Y w BX RD}(d:Rd y y'):y'.x.r=y.x.r:=by obtain⟨g,e⟩:=d.x;rw[e]
theorem KX(y:Y w BX RD)(I:Inv y)(hi:i∈y.x.ids)(hu:i=12\/i=13\/i=14){v4 v5 v6 v7 v8 v9 v11:Op Va}{N:NP}(hq:∀ y' v5 v6 v7 v8 v9 v11,Rd y y'->N (lQ w RD e i (y.x.r i 0) v4 v5 v6 v7 v8 v9 v11) y'.z.P):
  wpS (m+39) BU (bV 3 Ho) (lQ w RD e i (y.x.r i 0) v4 v5 v6 v7 v8 v9 v11) y.z.P X N Q:=by
 have r0:=y.row hi (k:=0) ();have th:=y.L.th i hi;refine aU y.z.K.W NN.1 (by rw[NN.2];exact MZ w y.z.n) λj=>aO (v:=.ref (y.x.th i)) r0 rfl (Ax (m:=m+35) y.z th hu λz1 f num fd l1 A1 u nw h1=>?_);let y1:=y.go z1 l1
 have gf:y.x.g f=none:=by
  cases q:y.x.g f with
  | none=>rfl
  | some t=>obtain⟨un,o,h,n⟩:=y.L.un f t q;exact(nw o h n (.inl un)).elim
 have R1:Rd y y1:=(Rd.refl y I).go z1 l1;have t1:EK y1 f i:=⟨num,fd,h1,u,gf⟩
 refine⟨bl,λa ha=>cP (aA ..) bl ?_⟩;let y2:=y1.go (z1.new a (.list (0,0) ((["x","y","z","w"]:List Str).map λs=>.str s 0)) ha) ((Le.refl z1).new _ ha);have R2:Rd y y2:=R1.go _ _;refine D9 (S:=λj=>True) (y0:=y2) (a:=a) rfl (λy3 s v6 v7 v8 v9 j d K hK=>?_) (λy3 v6 v7 v8 v9 v11 d=>?_) ["x","y","z","w"] y2 v6 v7 v8 v9 v11 (λj j=>trivial) (.refl y2 R2.n.I) ⟨aA ..,z1.un ha,y1.xy ha⟩
 ·have d3:=R2.trans d
  have er:=d3.r;have t3:EK y3 f i:=(t1.rd ((Rd.refl y1 R1.n.I).go _ _)).rd d;have:=VK (m:=m) (X:=X) (Q:=Q) (v4:=v4) (v6:=v6) (v7:=v7) (v8:=v8) (v9:=v9) (s:=s) (e:=e) (N:=K) y3 d3.n.I (d3.hi▸hi) hu t3 λy' v6 v7 d'=>er▸hK y' v6 v7 v8 v9 d';rw[er] at this;exact this
 have d3:=R2.trans d;refine⟨bl,λb hb=>cP (aA ..) bl ?_⟩;let y4:=y3.go (y3.z.new b (.list (0,0) ((["K","L"]:List Str).map λs=>.str s 0)) hb) ((Le.refl y3.z).new _ hb);have R4:Rd y y4:=d3.go _ _;refine D9 (S:=λs=>KL s) (y0:=y4) (a:=b) rfl (λy5 s v6 v7 v8 v9 ks d K hK=>?_) (λy5 v6 v7 v8 v9 v11 d=>?_) ["K","L"] y4 v6 v7 v8 v9 v11 (λs hs=>(ku hs).elim .inl λh=>.inr (cu h)) (.refl y4 R4.n.I) ⟨aA ..,y3.z.un hb,y3.xy hb⟩
 ·have d5:=R4.trans d
  have er:=d5.r;have:=VJ (m:=m) (X:=X) (Q:=Q) (v4:=v4) (v5:=some (.ref f)) (v6:=v6) (v7:=v7) (v8:=v8) (v9:=v9) (s:=s) (e:=e) (N:=K) y5 d5.n.I (d5.hi▸hi) hu ks λy' v8 v9 d'=>er▸hK y' v6 v7 v8 v9 d';rw[er] at this;exact this
 have d5:=R4.trans d;have er:=d5.r;have:=VI (m:=m+38) (X:=X) (Q:=Q) (v4:=v4) (v5:=some (.ref f)) (v6:=v6) (v7:=v7) (v8:=v8) (v9:=v9) (v11:=v11) (e:=e) (N:=N) y5 d5.n.I (d5.hi▸hi) hu λy' d'=>er▸hq y' _ _ _ _ _ _ (d5.trans d');rw[er] at this;exact this
end
section
variable{m:Nat}{X:XP}{Q:VQ}{s mo:Str}{e:Ad}
noncomputable def lR(w:Wc)(RD:Ad)(e:Ad)(v3 v4 v5 v6 v7 v8 v9 v10 v11:Op Va):Lv:=(some (.ref w.W)::some (.ref RD)::some (.ref e)::v3::v4::v5::v6::v7::v8::v9::v10::v11::nN 12)
theorem LK{t:Nat × Nat}{vs:List Va}{N:NP}:∀(ns:List Nat) (y:Y w BX RD) v3 v4 v5 v6 v7 v8 v9 v10 v11,Inv y->(∀ i∈ns,i∈y.x.ids/\(i=12\/i=13\/i=14))->(y.z.P e=some (.list t vs)/\y.z.h e=none/\y.x.g e=none)->(∀ y' v3 v4 v5 v6 v7 v8 v9 v10 v11,Nx 0 y y'->N (lR w RD e v3 v4 v5 v6 v7 v8 v9 v10 v11) y'.z.P)->cM (λv l P' k=>wpS (m+39) BU Ho (l.set 3 (some v)) (kD BU 3 P') X k Q) (λP'=>P' e=some (.list t vs)) (fS ns) (lR w RD e v3 v4 v5 v6 v7 v8 v9 v10 v11) y.z.P N:=by
 intro rr;induction rr with
 | nil=>exactλy v3 v4 v5 v6 v7 v8 v9 v10 v11 I q q hN=>hN y _ _ _ _ _ _ _ _ _ (.refl I)
 | cons i ns ih=>
  intro y v3 v4 v5 v6 v7 v8 v9 v10 v11 I hs h hN;obtain⟨hi,hu⟩:=hs i (.head _);let y1:=y.go y.z.drop (Le.refl y.z).drop;have R1:Rd y y1:=(Rd.refl y I).go _ _
  refineλq=>aO (v:=.ref (y.x.r i 0)) y.L.rows (bC (I.O.ids i hi) I.O.ids hi) ?_
  refine KW (m:=m) (v4:=v4) y1 R1.n.I hi hu λy2 a d2=>?_;have er:=d2.r;have:=KX (m:=m) (X:=X) (Q:=Q) (v4:=some (.ref a)) (v5:=v5) (v6:=v6) (v7:=v7) (v8:=v8) (v9:=v9) (v11:=v11) (e:=e) (N:=λl' P'=>P' e=some (.list t vs)/\cM (λv l P' k=>wpS (m+39) BU Ho (l.set 3 (some v)) (kD BU 3 P') X k Q) (λP'=>P' e=some (.list t vs)) (fS ns) l' P' N) y2 d2.n.I (d2.hi▸hi) hu λy3 v5 v6 v7 v8 v9 v11 d3=>?_
  ·rw[er] at this;exact this
  have R3:=(R1.trans d2).trans d3;have f:=R3.n.f.fr e _ h.1 rfl h.2.1 h.2.2;exact⟨f.1,ih y3 _ _ _ _ _ _ _ _ _ R3.n.I (λj hj=>R3.hi.symm▸hs j (.tail _ hj)) f λy' v3 v4 v5 v6 v7 v8 v9 v10 v11 n=>hN y' _ _ _ _ _ _ _ _ _ (R3.n.trans n)⟩
theorem kE(y:Y w BX RD)(I:Inv y){ns:List Nat}{t:Nat × Nat}(hs:∀ i∈ns,i∈y.x.ids/\(i=12\/i=13\/i=14))(hl:ns.length<9)(h:y.z.P e=some (.list t (fS ns))/\y.z.h e=none/\y.x.g e=none)(hq:∀ y',Nx 0 y y'->Q (.bool true) y'.z.P):Calls (m+40) 1167 [.ref w.W,.ref RD,.ref e] y.z.P X Q:=fU 101 rfl rfl rfl (cP h.1 (by rw[cQ];exact gy hl ()) (LK ns y none none none none none none none none none I hs h λy' q q q q q q q q q n=>hq (y'.go y'.z.drop (Le.refl y'.z).drop) (n.go _ _)))
end
section
structure RowC(P0 P':PH)(RD r0:Ad)(R kvs:List (Str × Va))(L:List (Ad × PO)):Prop where
 pu:∀ c o,P0 c=some o->c≠RD->P' c=some o
 rd:P' RD=some (.dict (0,0) R)
 M9:P' r0=some (.dict (0,0) kvs)
 n0:P0 r0=none
 nr:r0≠RD
 cs:∀ q∈L,P' q.1=some q.2/\P0 q.1=none/\q.1≠RD
 nd:(r0::L.map (·.1)).Nodup
section
variable{P0:PH}{RD r0 n:Ad}{R kvs':List (Str × Va)}{L:List (Ad × PO)}{o:PO}
theorem RowC.fresh(c:RowC P0 P' RD r0 R kvs L)(hn:P' n=none):P0 n=none/\n≠RD/\n≠r0/\n∉L.map (·.1):=by
 have a:n≠RD:=λe=>by rw[e,c.rd] at hn;cases hn
 refine⟨?_,a,λe=>(by rw[e,c.M9] at hn;cases hn),λh=>?_⟩
 ·cases q:P0 n with
  | none=>rfl
  | some o=>rw[c.pu n o q a] at hn;cases hn
 ·obtain⟨q,hq,e⟩:=List.mem_map.mp h
  rw[<-e,(c.cs q hq).1] at hn;cases hn
theorem RowC.new(c:RowC P0 P' RD r0 R kvs L)(hn:P' n=none):RowC P0 (upd P' n o) RD r0 R kvs L:=⟨λa o' h x=>aI (c.pu a o' h x) hn,aI c.rd hn,aI c.M9 hn,c.n0,c.nr,λq hq=>⟨aI (c.cs q hq).1 hn,(c.cs q hq).2⟩,c.nd⟩
theorem RowC.step(c:RowC P0 P' RD r0 R kvs L)(hn:P' n=none):RowC P0 (upd (upd P' n o) r0 (.dict (0,0) kvs')) RD r0 R kvs' ((n,o)::L):=by
 have f:=c.fresh hn;have nd:=dj c.nd;have k:∀{a},a≠r0->upd (upd P' n o) r0 (.dict (0,0) kvs') a=upd P' n o a:=λh=>aD h;refine⟨λa o' h x=>(k λe=>by rw[e,c.n0] at h;cases h).trans (aI (c.pu a o' h x) hn),(k c.nr.symm).trans (aI c.rd hn),aA ..,c.n0,c.nr,λq hq=>?_,?_⟩
 ·rcases ku hq with h|h
  ·subst h;exact⟨(k f.2.2.1).trans (aA ..),f.1,f.2.1⟩
  ·have t:=c.cs q h
   exact⟨(k λe=>nd.1 (e▸jx h)).trans (aI t.1 hn),t.2⟩
 ·refine dh ⟨λh=>?_,dh ⟨f.2.2.2,nd.2⟩⟩
  rcases ku h with h|h
  ·exact f.2.2.1 h.symm
  ·exact nd.1 h
end
theorem Pa{k:Str}{v:Va}:∀{l:List (Str × Va)},aR k l=none->cU k v l=l++[(k,v)]:=by
 intro rr;induction rr with
 | nil=>exactλq=>rfl
 | cons yk l ih=>
  obtain⟨k',v'⟩:=yk;intro h;have h:(if k'=k then some v' else aR k l)=none:=h;show(if k'=k then(k',v)::l else(k',v')::cU k v l)=_;by_cases e:k'=k
  ·rw[ai e] at h;cases h
  ·rw[aa e] at h ⊢;rw[ih h];rfl
theorem IL{k:Str}{r:List (Str × Va)}:∀{l:List (Str × Va)},aR k (l++r)=match aR k l with|some v=>some v|none=>aR k r:=by
 intro rr;induction rr with
 | nil=>exact rfl
 | cons yk l ih=>
  obtain⟨k',v'⟩:=yk;show(if k'=k then some v' else aR k (l++r))=(match (if k'=k then some v' else aR k l) with|some v=>some v|none=>aR k r);by_cases e:k'=k
  ·rw[ai e,ai e]
  ·rw[aa e,aa e];exact ih
theorem Jp{j:Nat}{f:Nat->Va}(hu:j∈pN):∀{l:List Nat},(∀ y∈l,y∈pN)->j∉l->aR (fE j) (l.map λi=>(fE i,f i))=none:=by
 intro rr;induction rr with
 | nil=>exactλu u=>rfl
 | cons y l ih=>intro h hj;show(if fE y=fE j then some (f y) else aR (fE j) (l.map λi=>(fE i,f i)))=_;rw[aa λq=>hj (by rw[tW _ (h y (.head _)) _ hu q];exact .head _)];exact ih (λz hz=>h z (.tail _ hz)) λh=>hj (.tail _ h)
end
noncomputable abbrev Tj:List Bool:=(fF 14)
noncomputable def QH(a b:Ad)(pv:Va)(v1 v2 v3 v4 v5:Ad):List (Str × Va):=[("thing",.ref a),("parent",pv),("methods",.ref v1),("alone",.ref v2),("consts",.ref v3),("mixed",.ref v4),("front",.ref v5)]
section
variable{m:Nat}{X:XP}{Q:VQ}{s mo:Str}{e:Ad}
noncomputable def lZ(BX:Ad)(w:Wc)(RD:Ad)(t:Ad)(v4:Op Va)(e:Ad)(v6:Op Va):Lv:=(some (.ref BX)::some (.ref w.W)::some (.ref RD)::some (.ref t)::v4::some (.ref e)::v6::nN 7)
theorem yL{P0 P':PH}{t:Ad}{v4 v6:Op Va}{r0 rC a g:Ad}{R kvs kvC kw:List (Str × Va)}{L:List (Ad × PO)}{tt:Nat × Nat}{o:PO}{k:Str}{K:NP}(c:RowC P0 P' RD r0 R kvs L)(hC:aR "C" R=some (.ref rC))(hD:aR "D" R=some (.ref r0))(pC:P0 rC=some (.dict (0,0) kvC)/\rC≠RD)(hk:aR k kvC=some (.ref g))(pg:P0 g=some (.dict tt kw)/\g≠RD)(lw:kw.length<big)(lk:kvs.length<big)(ha:P' a=some o)(na:a≠r0)
  (hq:∀ n BR,RowC P0 BR RD r0 R (cU k (.ref n) kvs) ((n,.dict (0,0) kw)::L)->BR a=some o->K (lZ BX w RD t v4 e (some (.str k 0))) BR):
  wpS m Tj (Pq (bV 3 fP)) (lZ BX w RD t v4 e (some (.str k 0))) P' X K Q:=
 λq=>aO (v:=.ref rC) c.rd hC λq=>aO (v:=.ref g) (c.pu _ _ pC.1 pC.2) hk (cX (c.pu _ _ pg.1 pg.2) lw λn hn=>
  have c1:=c.new (o:=.dict (0,0) kw) hn
  λq=>aO (v:=.ref r0) c1.rd hD (cX c1.M9 lk (hq n _ (c.step hn) ((aD na).trans (aI ha hn)))))
theorem DI{P0 P':PH}{t:Ad}{v4 v6:Op Va}{r0 rC a g:Ad}{R kvs kvC:List (Str × Va)}{kw:List Va}{L:List (Ad × PO)}{tt:Nat × Nat}{o:PO}{k:Str}{K:NP}(c:RowC P0 P' RD r0 R kvs L)(hC:aR "C" R=some (.ref rC))(hD:aR "D" R=some (.ref r0))(pC:P0 rC=some (.dict (0,0) kvC)/\rC≠RD)(hk:aR k kvC=some (.ref g))(pg:P0 g=some (.list tt kw)/\g≠RD)(lw:kw.length<big)(lk:kvs.length<big)(ha:P' a=some o)(na:a≠r0)
  (hq:∀ n BR,RowC P0 BR RD r0 R (cU k (.ref n) kvs) ((n,.list (0,0) kw)::L)->BR a=some o->K (lZ BX w RD t v4 e (some (.str k 0))) BR):
  wpS m Tj (Pq (bV 4 fP)) (lZ BX w RD t v4 e (some (.str k 0))) P' X K Q:=
 λq=>aO (v:=.ref rC) c.rd hC λq=>aO (v:=.ref g) (c.pu _ _ pC.1 pC.2) hk (tS (c.pu _ _ pg.1 pg.2) lw λn hn=>
  have c1:=c.new (o:=.list (0,0) kw) hn
  λq=>aO (v:=.ref r0) c1.rd hD (cX c1.M9 lk (hq n _ (c.step hn) ((aD na).trans (aI ha hn)))))
end
section
variable{m:Nat}{X:XP}{Q:VQ}{s mo:Str}{e:Ad}
noncomputable def newR(y:Y w BX RD)(r0:Ad):List (Str × Va):=(y.x.ids.map λi=>(fE i,Value.ref (y.x.r i 0)))++[((("D":Str)),Value.ref r0)]
noncomputable def newL(y:Y w BX RD)(n1 n2 n3 n4 n5:Ad):List (Ad × PO):=[(n5,cH (y.x.th 13) (y.x.r 13) (y.x.tp 13) (y.x.D 13) 13 5),(n4,cH (y.x.th 13) (y.x.r 13) (y.x.tp 13) (y.x.D 13) 13 4),(n3,cH (y.x.th 13) (y.x.r 13) (y.x.tp 13) (y.x.D 13) 13 3),(n2,cH (y.x.th 13) (y.x.r 13) (y.x.tp 13) (y.x.D 13) 13 2),(n1,cH (y.x.th 13) (y.x.r 13) (y.x.tp 13) (y.x.D 13) 13 1)]
theorem AI(y:Y w BX RD)(hu:∀ i∈y.x.ids,i∈pN)(lW:13∈y.x.ids)(Af:14∉y.x.ids)(hn:y.x.ids.length<9)(hi:y.z.A.ad 14=some e)(lm:(y.x.D 13).mt.length<20)(la:(y.x.D 13).al.length<20)(lc:(y.x.D 13).ct.length<20)(lx:(y.x.D 13).mx.length<20)(lh:(y.x.D 13).ah.length<20){v4:Op Va}{N:NP}
  (hq:∀ P' r0 n1 n2 n3 n4 n5,RowC y.z.P P' RD r0 (newR y r0) (QH e r0 (.str "B" 0) n1 n2 n3 n4 n5) (newL y n1 n2 n3 n4 n5)->Q (.bool true) P'):
  wpS (m+17) Tj (bV 2 fP) (lZ BX w RD (y.x.th 13) v4 e none) y.z.P X N Q:=by
 have rows:=y.L.rows;have r13:=y.row lW (k:=0) ();have ne:∀{k},k<6->y.x.r 13 k≠RD:=λh=>gE (y.L.row 13 lW _ h).2 y.L.oR λq=>by have:=aj Prod.fst q;simp only at this;lia
 have gC:=bC (j:=13) (f:=λi=>.ref (y.x.r i 0)) (hu 13 lW) hu lW;have gD:=Jp (j:=14) (f:=λi=>.ref (y.x.r i 0)) ⋯ hu Af;have big1:∀{n:Nat},n<20->n<big:=λh=>gy h ();have hr:(y.x.ids.map λi=>(fE i,Value.ref (y.x.r i 0))).length<big:=by rw[ef];exact gy hn ()
 refineλu=>aO (v:=.ref (y.x.r 13 0)) rows gC λu=>aO (v:=.str "B" 0) r13 rfl (xJ (m:=m+16) λP1 r nr=>cX (nr.pu _ _ rows) hr ?_)
 have z0:y.z.P (r 0)=none:=nr.fr 0 ();have n0:r 0≠RD:=λq=>by rw[q,rows] at z0;cases z0
 have kp:cU "D" (Value.ref (r 0)) (y.x.ids.map λi=>(fE i,Value.ref (y.x.r i 0)))=newR y (r 0):=Pa gD;rw[kp];have hC:aR "C" (newR y (r 0))=some (.ref (y.x.r 13 0)):=by unfold newR;rw[IL,show aR "C" (y.x.ids.map λi=>(fE i,Value.ref (y.x.r i 0)))=_ from gC]
 have hD:aR "D" (newR y (r 0))=some (.ref (r 0)):=by unfold newR;rw[IL,show aR "D" (y.x.ids.map λi=>(fE i,Value.ref (y.x.r i 0)))=_ from gD];rfl
 have c0:RowC y.z.P (upd P1 RD (.dict (0,0) (newR y (r 0)))) RD (r 0) (newR y (r 0)) (QH e (r 0) (.str "B" 0) (r 1) (r 2) (r 3) (r 4) (r 5)) []:=⟨λc o h n=>(aD n).trans (nr.pu c o h),aA ..,(aD n0).trans nr.M9,z0,n0,λu h=>absurd h gk,dh ⟨gk,List.nodup_nil⟩⟩
 have pC:=And.intro r13 (ne (k:=0) ());have pg:∀ k (h:k<6),y.z.P (y.x.r 13 k)=some (cH (y.x.th 13) (y.x.r 13) (y.x.tp 13) (y.x.D 13) 13 k)/\y.x.r 13 k≠RD:=λk h=>⟨y.row lW h,ne h⟩
 have lmap:∀{α:Type} {f:α->Str × Va} {l:List α},l.length<20->(l.map f).length<big:=λh=>by rw[ef];exact big1 h
 have lmap2:∀{l:List Nat},l.length<20->(fS l).length<big:=λh=>by rw[cQ];exact big1 h
 refine⟨bl,λa ha=>cP (aA ..) bl ?_⟩;have c1:=c0.new (o:=.list (0,0) [.str "methods" 0,.str "alone" 0,.str "consts" 0]) ha;have na:a≠r 0:=(c0.fresh ha).2.2.1;refine yL (v6:=none) c1 hC hD pC rfl (pg 1 ()) (lmap lm) bl (aA ..) na λn1 P2 c2 a2=>⟨a2,?_⟩
 refine yL (v6:=none) c2 hC hD pC rfl (pg 2 ()) (lmap la) bl a2 na λn2 P3 c3 a3=>⟨a3,?_⟩
 refine yL (v6:=none) c3 hC hD pC rfl (pg 3 ()) (lmap lc) bl a3 na λn3 P4 c4 a4=>⟨a4,?_⟩
 refine⟨bl,λb hb=>cP (aA ..) bl ?_⟩;have c5:=c4.new (o:=.list (0,0) [.str "mixed" 0,.str "front" 0]) hb;have nb:b≠r 0:=(c4.fresh hb).2.2.1;refine DI (v6:=none) c5 hC hD pC rfl (pg 4 ()) (lmap2 lx) bl (aA ..) nb λn4 P6 c6 a6=>⟨a6,?_⟩
 refine DI (v6:=none) c6 hC hD pC rfl (pg 5 ()) (lmap2 lh) bl a6 nb λn5 P7 c7 a7=>⟨a7,?_⟩
 have own:∀{c o t},y.z.h c=some t->y.z.P c=some o->o.bR=false->P7 c=some o:=λ{c o t} h p _=>c7.pu c o p λq=>by rw[q,(y.L.un _ _ y.L.oR).1] at h;cases h
 let z7:Z w y.C []:=⟨P7,y.z.A,y.z.h,y.z.n,y.z.kp,y.z.K.keep λc o t h p l=>own h p l⟩
 have rz:z7.A.ad 13=some (y.x.th 13):=y.L.th 13 lW;have hi':z7.A.ad 14=some e:=hi;refine aG (v:=.int (z7.A.num 14) 0) (z7.at_ hi' nn) rfl rfl rfl (aG (v:=.int (z7.A.num 13) 0) (z7.at_ rz nn) rfl rfl rfl (bt (c:=!decide (z7.A.num 14=z7.A.num 13)) (by rw[av λq=>absurd (y.z.K.inj 14 13 _ _ hi rz q) ()];rfl) ⟨bl,λf hf=>wM (m:=m+16) (z7.new f (.list (0,0) []) hf) hi' rfl ⟨rfl,?_⟩⟩));exact hq _ _ n1 n2 n3 n4 n5 (c7.new hf)
end
noncomputable def rF(r0 n1 n2 n3 n4 n5:Ad):List (Nat × Nat):=[(r0,0),(n5,5),(n4,4),(n3,3),(n2,2),(n1,1)]
noncomputable def w6(l:List (Nat × Nat))(g:eT):eT:=λc=>match l.lookup c with
 | some k=>some (k,14)
 | none=>g c
section
variable{e:Ad}
noncomputable def newX(x:Lx)(e r0 n1 n2 n3 n4 n5:Ad):Lx:={ x with ids:=x.ids++[14],r:=λi k=>if i=14 then r6 r0 n1 n2 n3 n4 n5 k else x.r i k,tp:=λi=>if i=14 then x.tp 13 else x.tp i,th:=λi=>if i=14 then e else x.th i,g:=w6 (rF r0 n1 n2 n3 n4 n5) x.g,D:=λi=>if i=14 then x.D 13 else x.D i }
variable(y:Y w BX RD)(lW:13∈y.x.ids)(Af:14∉y.x.ids)(hi:y.z.A.ad 14=some e){r0 n1 n2 n3 n4 n5:Ad}(rc:RowC y.z.P P' RD r0 (newR y r0) (QH e r0 (.str "B" 0) n1 n2 n3 n4 n5) (newL y n1 n2 n3 n4 n5))
include rc
theorem LU{k:Nat}(hk:k<6):(r6 r0 n1 n2 n3 n4 n5 k,k)∈rF r0 n1 n2 n3 n4 n5/\P' (r6 r0 n1 n2 n3 n4 n5 k)=some (cH e (r6 r0 n1 n2 n3 n4 n5) (y.x.tp 13) (y.x.D 13) 14 k)/\y.z.P (r6 r0 n1 n2 n3 n4 n5 k)=none:=by
 have m:∀{q},q∈newL y n1 n2 n3 n4 n5->P' q.1=some q.2/\y.z.P q.1=none:=λh=>⟨(rc.cs _ h).1,(rc.cs _ h).2.1⟩
 exact six (p:=λk=>(r6 r0 n1 n2 n3 n4 n5 k,k)∈rF r0 n1 n2 n3 n4 n5/\P' (r6 r0 n1 n2 n3 n4 n5 k)=some (cH e (r6 r0 n1 n2 n3 n4 n5) (y.x.tp 13) (y.x.D 13) 14 k)/\y.z.P (r6 r0 n1 n2 n3 n4 n5 k)=none) ⟨.head _,rc.M9,rc.n0⟩ ⟨.tail _ (.tail _ (.tail _ (.tail _ (.tail _ (.head _))))),m (.tail _ (.tail _ (.tail _ (.tail _ (.head _)))))⟩ ⟨.tail _ (.tail _ (.tail _ (.tail _ (.head _)))),m (.tail _ (.tail _ (.tail _ (.head _))))⟩ ⟨.tail _ (.tail _ (.tail _ (.head _))),m (.tail _ (.tail _ (.head _)))⟩ ⟨.tail _ (.tail _ (.head _)),m (.tail _ (.head _))⟩ ⟨.tail _ (.head _),m (.head _)⟩ k hk
theorem NV{a k:Nat}(h:(rF r0 n1 n2 n3 n4 n5).lookup a=some k):k<6/\a=r6 r0 n1 n2 n3 n4 n5 k:=by have c:∀{p:Nat × Nat} {l:List (Nat × Nat)},(p.2<6/\p.1=r6 r0 n1 n2 n3 n4 n5 p.2)->(∀ q∈l,q.2<6/\q.1=r6 r0 n1 n2 n3 n4 n5 q.2)->∀ q∈p::l,q.2<6/\q.1=r6 r0 n1 n2 n3 n4 n5 q.2:=λh t=>List.forall_mem_cons.2 ⟨h,t⟩;exact c ⟨bl,rfl⟩ (c ⟨bl,rfl⟩ (c ⟨bl,rfl⟩ (c ⟨bl,rfl⟩ (c ⟨bl,rfl⟩ (c ⟨bl,rfl⟩ λj h=>absurd h gk))))) _ (lookup_mem h)
theorem Bd{a:Ad}(h:y.z.P a≠none):w6 (rF r0 n1 n2 n3 n4 n5) y.x.g a=y.x.g a:=by
 unfold w6;cases q:(rF r0 n1 n2 n3 n4 n5).lookup a with
 | none=>rfl
 | some k=>have t:=NV y rc q;exact(h (by rw[t.2];exact(LU y rc t.1).2.2)).elim
theorem Jk{k:Nat}(hk:k<6):w6 (rF r0 n1 n2 n3 n4 n5) y.x.g (r6 r0 n1 n2 n3 n4 n5 k)=some (k,14):=by unfold w6;rw[vm (l:=rF r0 n1 n2 n3 n4 n5) rc.nd (LU y rc hk).1]
theorem AP{a:Ad}{t:Tag}(h:y.x.g a=some t):w6 (rF r0 n1 n2 n3 n4 n5) y.x.g a=some t:=by obtain⟨_,o,p,_⟩:=y.L.un a t h;rw[Bd y rc (by rw[p];intro q;cases q),h]
theorem CY{a:Ad}{t:Tag}{o:PO}(h:y.x.g a=some t)(n:t≠(6,99))(p:y.z.P a=some o):P' a=some o:=rc.pu a o p (gE h y.L.oR n)
end
variable{e:Ad}
noncomputable def Y.oV(y:Y w BX RD)(lW:13∈y.x.ids)(Af:14∉y.x.ids)(hi:y.z.A.ad 14=some e){P':PH}{r0 n1 n2 n3 n4 n5:Ad}(c:RowC y.z.P P' RD r0 (newR y r0) (QH e r0 (.str "B" 0) n1 n2 n3 n4 n5) (newL y n1 n2 n3 n4 n5)):Y w BX RD:=
 ⟨y.C,⟨P',y.z.A,y.z.h,y.z.n,y.z.kp,y.z.K.keep λa o j h p j=>c.pu a o p λq=>by rw[q,(y.L.un _ _ y.L.oR).1] at h;cases h⟩,newX y.x e r0 n1 n2 n3 n4 n5,by
  have n6:∀{a b:Nat},a≠6->((a,b):Tag)≠(6,99):=λh q=>h (aj Prod.fst q);have ids:∀{i},i∈y.x.ids++[14]->(i∈y.x.ids/\i≠14)\/i=14:=λh=>(cy h).elim (λh=>.inl ⟨h,λq=>Af (q▸h)⟩) λh=>.inr (cu h);exact⟨CY y c y.L.oB (n6 ()) y.L.box,by
    refine c.rd.trans (aj (λl=>some (PO.dict (0,0) l)) ?_);show newR y r0=(y.x.ids++[14]).map λi=>(fE i,Value.ref (if i=14 then r6 r0 n1 n2 n3 n4 n5 0 else y.x.r i 0))
    rw[i8];refine aj (·++[((("D":Str)),Value.ref r0)]) (jy λi hi=>?_);rw[aa λq:i=14=>Af (q▸hi)],λi h k hk=>by
    show P' (if i=14 then r6 r0 n1 n2 n3 n4 n5 k else y.x.r i k)=some (cH (if i=14 then e else y.x.th i) (λk=>if i=14 then r6 r0 n1 n2 n3 n4 n5 k else y.x.r i k) (if i=14 then y.x.tp 13 else y.x.tp i) (if i=14 then y.x.D 13 else y.x.D i) i k)/\w6 (rF r0 n1 n2 n3 n4 n5) y.x.g (if i=14 then r6 r0 n1 n2 n3 n4 n5 k else y.x.r i k)=_;rcases ids h with⟨h,q⟩|q
    ·simp only[aa q]
     have R:=y.L.row i h k hk;exact⟨CY y c R.2 (n6 (by lia)) R.1,AP y c R.2⟩
    ·subst q
     exact⟨(LU y c hk).2.1,Jk y c hk⟩,λi h q hq d hd=>by
    have hq:q∈(if i=14 then y.x.D 13 else y.x.D i).mt:=hq;show P' ((if i=14 then y.x.tp 13 else y.x.tp i) q.1)=_/\w6 (rF r0 n1 n2 n3 n4 n5) y.x.g ((if i=14 then y.x.tp 13 else y.x.tp i) q.1)=_;rcases ids h with⟨h,n⟩|n
    ·rw[aa n] at hq ⊢
     have T:=y.L.tup i h q hq d hd;exact⟨CY y c T.2 () T.1,AP y c T.2⟩
    ·rw[ai n] at hq ⊢
     have T:=y.L.tup 13 lW q hq d hd;exact⟨CY y c T.2 () T.1,AP y c T.2⟩,λi h=>by
    show y.z.A.ad i=some (if i=14 then e else y.x.th i);rcases ids h with⟨h,n⟩|n
    ·rw[aa n];exact y.L.th i h
    ·rw[n];exact hi,λa t h=>by
    have h:w6 (rF r0 n1 n2 n3 n4 n5) y.x.g a=some t:=h;unfold w6 at h;cases q:(rF r0 n1 n2 n3 n4 n5).lookup a with
    | some k=>have T:=NV y c q;have N:=LU y c T.1;rw[T.2];exact⟨y.z.un N.2.2,_,N.2.1,rK⟩
    | none=>
     rw[q] at h;obtain⟨u,o,p,l⟩:=y.L.un a t h;refine⟨u,?_⟩;by_cases z:a=RD
     ·rw[z];exact⟨_,c.rd,rfl⟩
     ·exact⟨o,c.pu a o p z,l⟩,AP y c y.L.oB,AP y c y.L.oR,λt ht=>(y.L.tb t ht).imp λes q=>⟨CY y c q.2.1 (n6 ()) q.1,AP y c q.2.1,λk d h=>⟨CY y c (q.2.2 k d h).2 (n6 ()) (q.2.2 k d h).1,AP y c (q.2.2 k d h).2⟩⟩⟩⟩
theorem Lf.oV{y0 y:Y w BX RD}(a:Lf y0 y)(lW:13∈y.x.ids)(Af:14∉y.x.ids)(hi:y.z.A.ad 14=some e){P':PH}{r0 n1 n2 n3 n4 n5:Ad}(c:RowC y.z.P P' RD r0 (newR y r0) (QH e r0 (.str "B" 0) n1 n2 n3 n4 n5) (newL y n1 n2 n3 n4 n5)):Lf y0 (y.oV lW Af hi c):=⟨λb o p n q r=>by have s:=a.fr b o p n q r;exact⟨c.pu b o s.1 λz=>(by rw[z,y.L.oR] at s;cases s.2.2),s.2.1,(Bd y c (by rw[s.1];intro q;cases q)).trans s.2.2⟩,λb o p n q=>by have s:=a.fz b o p n q;exact⟨CY y c s.2 () s.1,AP y c s.2⟩⟩
section
structure Tv(C C':Cont):Prop where
 c:∀ j,j≠14->j≠21->C'.c j=C.c j
 VL:C'.c 14=C.c 13
 Oo:C'.c 21=C.c 20
 V:eO C'
 L:sF C'
 U:GZ C'
theorem E3{C:Cont}(V:eO C)(L:sF C)(U:GZ C)(l14:C.lk 14=false):Tv C (ru C):=by
 have V1:=yM V;have c1:∀ j,j≠14->(kW C).c j=C.c j:=λj h=>aa h;have Oo:C.c 21=dZ:=(V 14 21 rfl l14).2;unfold ru qb;cases h:C.lk 13 with
 | false=>rw[show(kW C).lk 13=false from h,aa ()];exact⟨λj a y=>c1 j a,xR,(c1 21 ()).trans (Oo.trans (V 13 20 rfl h).2.symm),V1,L,U⟩
 | true=>
  rw[show(kW C).lk 13=true from h,ai rfl];have ec:=tZ 8 (kW C) 14 V1 ⟨21,rfl⟩;have o:∀ j,j≠21->(nV (cW 8 (kW C) 14)).c j=(kW C).c j:=λj n=>(dH n).trans (congrFun ec j);refine⟨λj a b=>(o j b).trans (c1 j a),(o 14 ()).trans xR,fZ.trans ((congrFun ec 20).trans (c1 20 ())),λi q hi l=>?_,Bp 8 (kW C) 14 L ⟨21,rfl⟩,Bq 8 (kW C) 14 (qD 14) U ⟨21,rfl⟩⟩;have l:(cW 8 (kW C) 14).lk i=false:=l;have n:i≠14:=λe=>by rw[e,pF 8 (kW C) 14 (qD 14)] at l;cases l
  have nq:q≠21:=λe=>n (by have h1:=(jU.of hi).ao;rw[e] at h1;exact(kr (h1.symm.trans (show gW 21=some 14 from rfl))));have W:=rI 8 (kW C) 14 V1 ⟨21,rfl⟩ i q hi l;exact⟨W.1,(dH nq).trans W.2⟩
theorem Nx.oV{k:Nat}{y0 y:Y w BX RD}(a:Nx k y0 y)(z':Z w (ru y.C) [])(l:Le y.z z')(lW:13∈y.x.ids)(Af:14∉y.x.ids)(y1:Y w BX RD)(e1:y1=y.go z' l)(hi){P':PH}{r0 n1 n2 n3 n4 n5:Ad}(c:RowC z'.P P' RD r0 (newR (y.go z' l) r0) (QH e r0 (.str "B" 0) n1 n2 n3 n4 n5) (newL (y.go z' l) n1 n2 n3 n4 n5)):
  Inv ((y.go z' l).oV (e:=e) lW Af hi c)/\Lf y0 ((y.go z' l).oV (e:=e) lW Af hi c):=by
 have I:=a.I
 have l14:y.C.lk 14=false:=by
  cases q:y.C.lk 14 with
  | false=>rfl
  | true=>obtain⟨b,hb⟩:=y.z.K.lk 14 q;rw[(I.HY Af).1] at hb;cases hb
 have F:=E3 I.V I.L I.lk l14;have usr21:∀{i},i∈pN->i≠21:=λh q=>by rw[q] at h;exact absurd h ⋯
 have o21:∀{i o},cV i=some o->i≠14->o≠14/\o≠21:=λ{i o} h n=>⟨λq=>(by have:=(jU.of h).ao;rw[q] at this;cases this),λq=>n (by have h1:=(jU.of h).ao;rw[q] at h1;exact(kr (h1.symm.trans (show gW 21=some 14 from rfl))))⟩
 refine⟨⟨⟨λi h=>?_,⟨fh _ I.O.b.1,fh _ I.O.b.2.1,fh _ I.O.b.2.2⟩,λi=>?_⟩,λi h=>?_,F.V,F.L,⟨I.b.1.imp λc h=>(l.ad 1 c h).1,I.b.2.imp λc h=>(l.ad 3 c h).1⟩,λi o h q hq=>?_,F.U,λh=>(h (fq _ (.head _))).elim,I.bx⟩,(a.f.go z' l).oV lW Af hi c⟩
 ·rcases cy h with h|h
  ·exact I.O.ids i h
  ·rw[cu h];decide +kernel
 ·show(if i=14 then y.x.D 13 else y.x.D i).mx∈oG/\(if i=14 then y.x.D 13 else y.x.D i).ah∈oG
  by_cases q:i=14
  ·rw[ai q];exact I.O.ls 13
  ·rw[aa q];exact I.O.ls i
 ·show(if i=14 then y.x.D 13 else y.x.D i)=rowOf (ru y.C) i
  by_cases q:i=14
  ·rw[ai q,q,I.D 13 lW]
   unfold rowOf;rw[F.VL];have:tB (ru y.C) 14=tB y.C 13:=by show oX ((ru y.C).c 21).mt=oX (y.C.c 20).mt;rw[F.Oo]
   rw[this]
  ·have h:=(cy h).resolve_right λh=>q (cu h)
   rw[aa q,I.D i h];unfold rowOf;rw[F.c i q (usr21 (I.O.ids i h))]
   have:tB (ru y.C) i=tB y.C i:=by
    unfold tB;cases r:cV i with
    | none=>rfl
    | some o=>have t:=o21 r q;dsimp only;rw[F.c o t.1 t.2]
   rw[this]
 ·have hq:q∈((ru y.C).c o).mt:=hq
  by_cases n:i=14
  ·rw[n] at h
   cases h;rw[F.Oo] at hq;exact I.al 13 20 rfl q hq
  ·have t:=o21 h n
   rw[F.c o t.1 t.2] at hq;exact I.al i o h q hq
end
section
variable{m:Nat}{X:XP}{Q:VQ}{s mo:Str}
theorem yz(y:Y w BX RD)(I:Inv y)(hb:y.x.bx.2<2^29)(lW:13∈y.x.ids)(Af:14∉y.x.ids)(hn:y.x.ids.length<9)(hq:∀ y',Inv y'->Lf y y'->y'.x.ids=y.x.ids++[14]->y'.x.bx.2<=y.x.bx.2+1->Q (.bool true) y'.z.P):Calls (m+18) 1148 [.ref BX,.ref w.W,.ref RD] y.z.P X Q:=by
 have u13:(13:Nat)∈pN:=⋯;refine aB 98 rfl rfl rfl (λq=>aO (v:=.ref (y.x.r 13 0)) y.L.rows (bC (j:=13) u13 I.O.ids lW) λq=>aO (v:=.ref (y.x.th 13)) (y.row lW (k:=0) ()) rfl (xQ (m:=m+16) y I (by lia) (n:=2) () λd a0 a1 y1 n1=>⟨bl,λt ht=>nZ (aA ..) ⟨rfl,?_⟩⟩));let y2:=y1.go (y1.z.new t (.tup [.ref (y.x.th 13),.int d 0]) ht) ((Le.refl y1.z).new _ ht);have n2:Nx 1 y y2:=n1.go _ _;have rz:13∈y2.x.ids:=by rw[n2.ids];exact lW
 have h14':14∉y2.x.ids:=by rw[n2.ids];exact Af
 have hn':y2.x.ids.length<9:=by rw[n2.ids];exact hn
 have th:y2.z.A.ad 13=some (y.x.th 13):=n2.A 13 _ (y.L.th 13 lW);have eth:y2.x.th 13=y.x.th 13:=kr ((y2.L.th 13 rz).symm.trans th);obtain⟨b,hb1⟩:=n2.I.b.1;obtain⟨c3,hc3⟩:=n2.I.b.2;have HY:=(n2.I.HY h14').1;have D:=n2.I.D 13 rz
 have rest:∀{l0:Le y2.z y2.z} (z':Z w (ru y2.C) []) e (l:Le y2.z z') (he:z'.A.ad 14=some e) {N:NP},wpS (m+17) Tj (bV 2 fP) (lZ BX w RD (y.x.th 13) (some (.int d 0)) e none) z'.P X N Q:=λ{_} z' e l he {N}=>by
  have r:=AI (m:=m) (X:=X) (Q:=Q) (v4:=some (.int d 0)) (N:=N) (y2.go z' l) n2.I.O.ids rz h14' hn' he (by
    show(y2.x.D 13).mt.length<20;rw[D];exact k6 (y2.z.K.wf.Jd 13) ()) (by
    show(y2.x.D 13).al.length<20;rw[D];exact k6 (fu (gi (ef ..)) (y2.z.K.wf.Jd 20)) ()) (by show(y2.x.D 13).ct.length<20;rw[D];exact k6 (y2.z.K.wf.Tn 13) ()) (k6 (cK _ (gF (n2.I.O.ls 13).1)) ()) (k6 (cK _ (gF (n2.I.O.ls 13).2)) ()) λP' r0 m1 m2 m3 m4 m5 c=>by have A:=n2.oV z' l rz h14' (y2.go z' l) rfl he c;exact hq _ A.1 A.2 (aj (·++[14]) n2.ids) n2.bx
  rw[show(y2.go z' l).x.th 13=y.x.th 13 from eth] at r;exact r
 by_cases hd:d=0
 ·subst hd
  refine⟨bl,λf hf=>?_⟩;have l0:Le y2.z (y2.z.new f (.list (0,0) []) hf):=(Le.refl y2.z).new _ hf;exact Q7 (m:=m) (y2.z.new f (.list (0,0) []) hf) th hc3 hb1 HY n2.I.V n2.I.L λz' e l he=>rest (l0:=.refl _) z' e (l0.trans l) he
 ·have hd1:d=1:=by lia
  subst hd1;refine⟨bl,λf hf=>?_⟩;have l0:Le y2.z (y2.z.new f (.list (0,0) []) hf):=(Le.refl y2.z).new _ hf;exact K4 (m:=m) (y2.z.new f (.list (0,0) []) hf) th hc3 hb1 HY n2.I.V n2.I.L λz' e l he=>rest (l0:=.refl _) z' e (l0.trans l) he
end
section
variable{m:Nat}{X:XP}{Q:VQ}{P0:PH}
noncomputable def TX:U:=Pq (bV 1 vX)
theorem Hv{a:Ad}{o:PO}{v0:Op Va}{N:NP}(hN:∀(b:Int) v2,N [v0,some (.int b 0),v2,none,none] P0)(ha:P0 a=some o):∀(l:List Int) (b:Int) v2,cM (λv l P' k=>wpS m (fF 5) TX (l.set 2 (some v)) (kD (fF 5) 2 P') X k Q) (λP'=>P' a=some o) (l.map λi=>.int i 0) [v0,some (.int b 0),v2,none,none] P0 N:=by
 intro rr;induction rr with
 | nil=>exactλb v2=>hN b v2
 | cons i l ih=>exactλb v2=>⟨(),⟨rfl,rfl⟩,(),(),ha,ih _ _⟩
abbrev KI:Prop:=nY wj=some (.list (0,0) (Jq.map λi=>.int i 0))/\Jq.length<big
theorem NY(h:KI){P:PH}(n:iE P):rd P wj=some (.list (0,0) (Jq.map λi=>.int i 0)):=by
 unfold rd;cases q:P wj with
 | none=>exact h.1
 | some o=>have:=n _ _ q;rw[h.1] at this;cases this
theorem Uo{Ph:PH}{a:Ad}{t:Nat × Nat}{vs:List Va}{R:List Va->Prop}(h:rd Ph a=some (.list t vs))(hl:vs.length<big)(hq:R vs):(match rd Ph a with
 | some (.list _ vs)=>vs.length<big/\R vs
 | _=>False):=by rw[h];exact⟨hl,hq⟩
theorem ER(hs:KI)(hq:∀ P' f (b:Int),Pu P0 P'->P0 f=none->P' f=some (.list (0,0) [.int b 0,.int 0 0])->Q (.ref f) P'):Calls (m+1) 1073 [.ref wj] P0 X Q:=by refine aB 87 rfl rfl rfl (λns=>N6 (NY hs ns) ⟨by rw[ef];exact hs.2,(),()⟩ λa ha=>cP (aA ..) (by rw[List.length_take,ef];exact k6 (Nat.min_le_right ..) hs.2) ?_);rw[<-List.map_take];exact Hv (λb v2=>⟨bl,λf hf=>hq _ f b (((Pu.refl P0).new _ ha).new _ hf) (((Pu.refl P0).new _ ha).un hf) (aA ..)⟩) (aA ..) _ _ _
end
section
variable{m:Nat}{X:XP}{Q:VQ}{s mo:Str}
noncomputable def Aj:List Va:=[.ref 1120,.ref 1120,.ref 1127,.ref 1134,.ref 1141]
theorem Q6(y:Y w BX RD)(I:Inv y)(hb:y.x.bx.2<2^29)(hi:i∈y.x.ids)(hu:i=12\/i=13\/i=14){f:Ad}(hf:f=1120\/f=1127\/f=1134\/f=1141){t:Int}(hq:∀ y',Nx 3 y y'->Q (.bool true) y'.z.P):Calls (m+40) f [.ref BX,.ref w.W,.ref RD,.str (fE i) 0,.int t 0] y.z.P X Q:=by
 rcases hf with rfl|rfl|rfl|rfl
 ·exact oA (m:=m+36) y I hb hi (λz=>by subst z;exact absurd hu ()) λy' n=>hq y' (n.le ())
 ·exact Av (m:=m+1) y I hb hi hu hq
 ·exact Au (m:=m+33) y I hb hi hu λy' n=>hq y' (n.le ())
 ·exact Ci (m:=m+23) y I hb hi hu λy' n=>hq y' (n.le ())
noncomputable def TV:U:=match bV 5 sD with
 | .seq (.qp _ _ b) _=>b
 | _=>.skip
noncomputable def lL(BX:Ad)(w:Wc)(RD:Ad)(sc ba ea en:Ad)(lg:Int)(v8 v9 v10 v11:Op Va):Lv:=(some (.ref sc)::some (.ref BX)::some (.int lg 0)::some (.ref w.W)::some (.ref ba)::some (.ref RD)::some (.ref ea)::some (.ref en)::v8::v9::v10::v11::nN 15)
theorem N5(y:Y w BX RD)(I:Inv y)(hb:y.x.bx.2<2^29)(hi:i∈y.x.ids)(hu:i=12\/i=13\/i=14\/i=15)(lW:13∈y.x.ids){f sc ba ea en:Ad}{lg t:Int}{v10:Op Va}(hf:f=1120\/f=1127\/f=1134\/f=1141)(h15:i=15->f=1120){N:NP}(hq:∀ y',Nx 3 y y'->N (lL BX w RD sc ba ea en lg (some (.int t 0)) (some (.str (fE i) 0)) v10 (some (.ref f))) y'.z.P):
  wpS (m+40) Cu (bV 3 TV) (lL BX w RD sc ba ea en lg (some (.int t 0)) (some (.str (fE i) 0)) v10 (some (.ref f))) y.z.P X N Q:=by
 have ac:∀{Q:VQ},(∀ y',Nx 3 y y'->Q (.bool true) y'.z.P)->Calls (m+40) f [.ref BX,.ref w.W,.ref RD,.str (fE i) 0,.int t 0] y.z.P X Q:=λ{Q} h=>by
  by_cases q:i=15
  ·subst q
   rw[h15 rfl];exact oA (m:=m+36) y I hb hi () λy' n=>h y' (n.le ())
  ·exact Q6 y I hb hi (hu.imp id λz=>z.imp id λz=>z.resolve_right q) hf h
 refine⟨.inl (by rcases hf with rfl|rfl|rfl|rfl<;>rfl),ac λy1 n1=>?_⟩;have rz:13∈y1.x.ids:=by rw[n1.ids];exact lW
 by_cases Af:14∈y1.x.ids
 ·refineλu=>bW (b:=true) (by rw[inD (dG y1.L.rows),show aR "D" _=_ from bC (j:=14) ⋯ n1.I.O.ids Af];rfl) ⟨bl,λa ha=>?_⟩
  let y2:=y1.go (y1.z.new a (.list (0,0) (fS [13,14])) ha) ((Le.refl y1.z).new _ ha);have n2:Nx 3 y y2:=n1.go _ _;exact kE (m:=m) y2 n2.I (ns:=[13,14]) (λj hj=>by
   rcases ku hj with h|h
   ·rw[h];exact⟨rz,.inr (.inl rfl)⟩
   ·rw[cu h];exact⟨Af,.inr (.inr rfl)⟩) () ⟨aA ..,y1.z.un ha,y1.xy ha⟩ λy' n=>hq y' (n2.trans n)
 ·refineλu=>bW (b:=false) (by rw[inD (dG y1.L.rows),show aR "D" _=_ from Jp (j:=14) ⋯ n1.I.O.ids Af];rfl) ⟨bl,λa ha=>?_⟩
  let y2:=y1.go (y1.z.new a (.list (0,0) (fS [13])) ha) ((Le.refl y1.z).new _ ha);have n2:Nx 3 y y2:=n1.go _ _;exact kE (m:=m) y2 n2.I (ns:=[13]) (λj hj=>by rw[cu hj];exact⟨rz,.inr (.inl rfl)⟩) () ⟨aA ..,y1.z.un ha,y1.xy ha⟩ λy' n=>hq y' (n2.trans n)
end
section
section
variable{m:Nat}{X:XP}{Q:VQ}{s mo:Str}
noncomputable def aL:List Ad:=[1120,1120,1127,1134,1141]
theorem KP{k:Int}(h:0<=k/\k<5):∃ f,Aj[k.toNat]?=some (.ref f)/\(f=1120\/f=1127\/f=1134\/f=1141):=by have hn:k.toNat<aL.length:=(Int.toNat_lt h.1).mpr h.2;refine⟨aL[k.toNat],?_,(by decide +kernel:∀ f∈aL,f=1120\/f=1127\/f=1134\/f=1141) _ (j9 hn)⟩;show(aL.map Value.ref)[k.toNat]?=_;rw[gj,f9 hn];rfl
structure Kept(y:Y w BX RD)(a:Ad)(vs:List Va):Prop where
 p:y.z.P a=some (.list (0,0) vs)
 h:y.z.h a=none
 g:y.x.g a=none
theorem Kept.of{y y':Y w BX RD}{a:Ad}{vs:List Va}(k:Kept y a vs)(f:Lf y y'):Kept y' a vs:=have s:=f.fr a _ k.p rfl k.h k.g;⟨s.1,s.2.1,s.2.2⟩
theorem N4(y:Y w BX RD)(I:Inv y)(hb:y.x.bx.2<2^28){ns:List Nat}(hs:∀ i∈ns,i∈y.x.ids/\(i=12\/i=13\/i=14\/i=15))(hl:0<ns.length/\ns.length<9)(lW:13∈y.x.ids){sc ba ea en:Ad}(ka:Kept y ea Aj)(kn:Kept y en (fS ns)){lg t:Int}{v9 v10 v11:Op Va}{N:NP}(hq:∀ y' v9 v10 v11,Nx 5 y y'->N (lL BX w RD sc ba ea en lg (some (.int t 0)) v9 v10 v11) y'.z.P):
  wpS (m+40) Cu (bV 1 TV) (lL BX w RD sc ba ea en lg (some (.int t 0)) v9 v10 v11) y.z.P X N Q:=by
 have nl:(fS ns).length<big:=by rw[cQ];exact gy hl.2 ()
 refine IV kn.p nl (xQ (m:=m+39) y I (iz hb ()) (n:=(fS ns).length) (by rw[cQ];exact⟨Int.ofNat_lt.mpr hl.1,iz (Int.ofNat_lt.mpr hl.2) ()⟩) λd a0 a1 y1 n1=>?_);rw[cQ] at a1;have hd:d.toNat<ns.length:=(Int.toNat_lt a0).mpr a1;have k1:=kn.of n1.f;have g1:(fS ns)[d.toNat]?=some (.str (fE ns[d.toNat]) 0):=by unfold fS;rw[gj,f9 hd];rfl
 have hj:=hs _ (j9 hd);refine cC k1.p a0 (iz a1 (iz (Int.ofNat_lt.mpr hl.2) ())) g1 (xQ (m:=m+39) y1 n1.I (Q4 n1.bx hb ()) (n:=5) () λk b0 b1 y2 n2=>⟨bl,λf hf=>nZ (aA ..) ⟨rfl,?_⟩⟩);let y3:=y2.go (y2.z.new f (.tup [.str (fE ns[d.toNat]) 0,.int k 0]) hf) ((Le.refl y2.z).new _ hf);have n3:Nx 2 y y3:=(n1.trans n2).go _ _;have ka3:=ka.of n3.f;have kN:ns[d.toNat]∈y3.x.ids:=by rw[n3.ids];exact hj.1
 have rz:13∈y3.x.ids:=by rw[n3.ids];exact lW
 obtain⟨f',hf',of'⟩:=KP ⟨b0,b1⟩;have b3:y3.x.bx.2<2^29:=Q4 n3.bx hb ();by_cases q:ns[d.toNat]=15
 ·refine bt (au (by rw[q];rfl)) ?_
  exact N5 (m:=m) y3 n3.I b3 kN hj.2 rz (f:=1120) (.inl rfl) (λj=>rfl) λy' n=>hq y' _ _ _ (n3.trans n)
 ·refine bf (av λh=>q (tW _ (I.O.ids _ hj.1) 15 ⋯ h)) (cC ka3.p b0 (iz b1 ()) hf' ?_)
  exact N5 (m:=m) y3 n3.I b3 kN hj.2 rz of' (λh=>(q h).elim) λy' n=>hq y' _ _ _ (n3.trans n)
end
end
section
noncomputable def kG:List Nat:=[12,13,15,16]
structure Turn(y:Y w BX RD)(q:Nat)(c:Nat)(ea en:Ad)(ns:List Nat):Prop where
 I:Inv y
 lW:13∈y.x.ids
 bf:q<=c->y.x.ids=kG
 b:y.x.bx.2<=6*q
 ka:Kept y ea Aj
 kn:Kept y en (fS ns)
 ns:(∀ i∈ns,i∈y.x.ids/\(i=12\/i=13\/i=14\/i=15))/\0<ns.length/\ns.length<9
section
variable{m:Nat}{X:XP}{Q:VQ}{s mo:Str}
theorem turns{sc ba ea:Ad}{lg:Nat}(hlg:lg<=1){N:NP}(hN:∀ l (y:Y w BX RD),N l y.z.P):∀(k q:Nat) (y:Y w BX RD) en ns v8 v9 v10 v11,q+k<=10->Turn y q (2+2*lg) ea en ns->x7 (λq l P' k=>wpS (m+40) Cu TV (l.set 8 (some (.int q 0))) (kD Cu 8 P') X k Q) q k (lL BX w RD sc ba ea en lg v8 v9 v10 v11) y.z.P N:=by
 intro rr;induction rr with
 | zero=>exactλq y en ns v8 v9 v10 v11 j j=>hN _ y
 | succ k ih=>
  intro q y en ns v8 v9 v10 v11 hk T;refine⟨by lia,?_⟩;by_cases h:(q:Int)=2+2*lg
  ·have h':q=2+2*lg:=by lia
   have ids:=T.bf (by lia);refine bt (au h) (yz (m:=m+22) y T.I (by have:=T.b;lia) T.lW (by rw[ids];decide +kernel) (by rw[ids];decide) λy1 I1 f1 e1 b1=>⟨bl,λa ha=>?_⟩);let y2:=y1.go (y1.z.new a (.list (0,0) (fS [13,14,13,14,12,15])) ha) ((Le.refl y1.z).new _ ha);have n2:Nx 0 y1 y2:=(Nx.refl I1).go _ _;have ids2:y2.x.ids=kG++[14]:=e1.trans (aj (·++[14]) ids);have hs:∀ i∈([13,14,13,14,12,15]:List Nat),i∈y2.x.ids/\(i=12\/i=13\/i=14\/i=15):=λi hi=>by rw[ids2];exact(by decide +kernel:∀ i∈([13,14,13,14,12,15]:List Nat),i∈kG++[14]/\(i=12\/i=13\/i=14\/i=15)) i hi
   have ka2:=(T.ka.of f1).of n2.f;have kn2:Kept y2 a (fS [13,14,13,14,12,15]):=⟨aA ..,y1.z.un ha,y1.xy ha⟩
   have b2:y2.x.bx.2<=6*q+1:=by have:=T.b;have h2:y2.x.bx.2=y1.x.bx.2:=rfl;lia
   have lW:13∈y2.x.ids:=by rw[ids2];decide +kernel
   refine N4 (m:=m) y2 n2.I (by lia) hs ⟨(),()⟩ lW ka2 kn2 λy' v9 v10 v11 n=>ih (q+1) y' a _ _ v9 v10 v11 (by lia) ⟨n.I,by rw[n.ids];exact lW,λz=>by lia,by have:=n.bx;lia,ka2.of n.f,kn2.of n.f,λi hi=>by rw[n.ids];exact hs i hi,(),()⟩
  ·refine bf (av h) (N4 (m:=m) y T.I (by have:=T.b;lia) T.ns.1 T.ns.2 T.lW T.ka T.kn λy' v9 v10 v11 n=>ih (q+1) y' en ns _ v9 v10 v11 (by lia) ⟨n.I,by rw[n.ids];exact T.lW,λz=>n.ids.trans (T.bf (by lia)),by have:=n.bx;have:=T.b;lia,T.ka.of n.f,T.kn.of n.f,λi hi=>by rw[n.ids];exact T.ns.1 i hi,T.ns.2⟩)
end
end
section
variable{m:Nat}{X:XP}{Q:VQ}{w:Wc}{C:Cont}{p:Nat}{b c:Ad}
theorem TP(z:Z w C [])(h1:z.A.ad 1=some b):∃ c,z.A.ad 3=some c:=z.K.ref 1 b h1 nn 3 (.head _)
theorem Vy(z:Z w C [])(h3:z.A.ad 3=some c):∃ c,z.A.ad 2=some c:=z.K.ref 3 c h3 nn 2 (.tail _ (.head _))
theorem Ng(z:Z w C [])(h1:z.A.ad 1=some b)(ha:z.A.ad p=some a)(hi:i=12/\p=1\/i=13/\p=12)(ni:z.A.ad i=none)(nc:C.c i=dZ)(hq:∀(z':Z w (C.new i dZ) []) e,Le z z'->z'.A.ad i=some e->Q (.ref e) z'.P):Calls (m+5) 436 [.ref w.W,.ref a] z.P X Q:=by
 obtain⟨c3,h3⟩:=TP z h1;have F:par i=some p/\qx i=3/\gW i=none/\qO i=none/\gM i=true/\nat i=none/\(12<=i/\i<22)/\(gM p=true/\gW p=none/\p≠3):=by rcases hi with⟨rfl,rfl⟩|⟨rfl,rfl⟩<;>exact⟨rfl,rfl,rfl,rfl,rfl,rfl,(),rfl,rfl,()⟩
 obtain⟨F1,F2,F3,F4,F5,F6,F7,F8⟩:=F;refine yD (m:=m) z h3 h1 ha F8 λz' e k num r=>?_;have hf:=vv (A:=z.A.set i e num) (lk:=false) (i:=i) (k:=k) (num:=.int num 0) (ow:=.ref c3) (nm:=.none) (ic:=.bool true) (pa:=.ref a) (at':=.none) (na:=.none) (kv:=.none) (by rw[show(z.A.set i e num).num i=num from ai rfl]) (by rw[F2];exact(aQ (bT ni _ _ h3).1).symm) rfl (by rw[F4];rfl) (by rw[F5]) (by rw[F1];exact(aQ (bT ni _ _ ha).1).symm) (by rw[F3];rfl) (by rw[F6];rfl) (by unfold Kp.kv;rw[r.kn];rfl)
 have hr:∀ j∈qx i::((par i).toList++(gW i).toList),∃ b,(z.A.set i e num).ad j=some b:=λj hj=>by
  rw[F1,F2,F3] at hj;rcases ku hj with h|h
  ·exact⟨c3,by rw[h];exact(bT ni _ _ h3).1⟩
  ·have h:j∈[p]:=h
   exact⟨a,by rw[cu h];exact(bT ni _ _ ha).1⟩
 exact hq (r.add ni F7 nc hf hr) e (r.Um ni F7 nc hf hr) (by show(z'.A.set i e num).ad i=_;exact set_same _ _ _ _)
theorem Nh(z:Z w C [])(h1:z.A.ad 1=some b)(hi:i=15\/i=16)(ni:z.A.ad i=none)(nc:C.c i=dZ)(hq:∀(z':Z w (C.new i dZ) []) e,Le z z'->z'.A.ad i=some e->Q (.ref e) z'.P):Calls (m+5) 443 [.ref w.W] z.P X Q:=by
 obtain⟨c3,h3⟩:=TP z h1;obtain⟨c2,h2⟩:=Vy z h3;have F:par i=none/\qx i=2/\gW i=none/\qO i=none/\gM i=false/\nat i=none/\(12<=i/\i<22):=by rcases hi with rfl|rfl<;>exact⟨rfl,rfl,rfl,rfl,rfl,rfl,()⟩
 obtain⟨F1,F2,F3,F4,F5,F6,F7⟩:=F;refine wK (m:=m) z h2 λz' e k num r=>?_;have hf:=vv (A:=z.A.set i e num) (lk:=false) (i:=i) (k:=k) (num:=.int num 0) (ow:=.ref c2) (nm:=.none) (ic:=.bool false) (pa:=.none) (at':=.none) (na:=.none) (kv:=.none) (by rw[show(z.A.set i e num).num i=num from ai rfl]) (by rw[F2];exact(aQ (bT ni _ _ h2).1).symm) rfl (by rw[F4];rfl) (by rw[F5]) (by rw[F1];rfl) (by rw[F3];rfl) (by rw[F6];rfl) (by unfold Kp.kv;rw[r.kn];rfl);have hr:∀ j∈qx i::((par i).toList++(gW i).toList),∃ b,(z.A.set i e num).ad j=some b:=λj hj=>by rw[F1,F2,F3] at hj;rw[cu hj];exact⟨c2,(bT ni _ _ h2).1⟩
 exact hq (r.add ni F7 nc hf hr) e (r.Um ni F7 nc hf hr) (by show(z'.A.set i e num).ad i=_;exact set_same _ _ _ _)
theorem Bf(z:Z w C [])(h:C.ex i=false)(hi:12<=i):z.A.ad i=none:=by
 have k:=z.K.ex i hi;cases q:z.A.ad i with
 | none=>rfl
 | some a=>rw[q,h] at k;cases k
theorem N8:eO C4:=λi o h q=>by
 have key:∀ i,i<22->∀ o∈(cV i).toList,C4.ex o=false/\(wu o=[]/\o∉[12,13,15,16]):=⋯;have hi:i<22:=by have h1:=(jU.of h).ao;have h2:∀ o,o<22->∀ i∈(gW o).toList,i<22:=⋯;exact h2 o (jU.of h).lo.2 i (Option.mem_toList.mpr h1)
 have k:=key i hi o (Option.mem_toList.mpr h);refine⟨k.1,?_⟩;show(if o=16 then dZ else if o=15 then dZ else if o=13 then dZ else if o=12 then dZ else⟨[],[],wu o,[]⟩)=dZ;rw[k.2.1]
 repeat' split
 all_goals rfl
theorem Tt:sF C4:=λi h=>by cases h
theorem Tu:GZ C4:=λi p q q h=>by cases h
end
section
section
variable{w:Wc}{C C':Cont}{z:Z w C []}{L:List (Ad × Tag × PO)}
theorem gA.le(H:gA z L){z':Z w C' []}(l:Le z z'):gA z' L:=⟨λq hq=>have a:=H.at_ q hq;have f:=l.fr _ _ a.1 a.2.1 (.inl a.2.2);⟨f.1,a.2.1,f.2.trans a.2.2⟩,H.nd⟩
theorem gA.fresh(H:gA z L){e:Ad}(he:z.P e=none):e∉L.map (·.1):=λh=>by obtain⟨q,hq,rfl⟩:=List.mem_map.mp h;rw[(H.at_ q hq).1] at he;cases he
theorem gA.new(H:gA z L){e:Ad}(he:z.P e=none)(t:Tag){o:PO}(no:o.bR=false):gA (z.new e o he) ((e,t,o)::L):=
 ⟨λq hq=>by
  rcases ku hq with h|h
  ·rw[h];exact⟨aA ..,no,z.un he⟩
  ·have a:=H.at_ q h;exact⟨aI a.1 he,a.2⟩,dh ⟨H.fresh he,H.nd⟩⟩
theorem gA.put{e:Ad}{t:Tag}{o:PO}(H:gA z ((e,t,o)::L)){o':PO}(no:o'.bR=false):gA (z.put e o' (H.at_ _ (.head _)).2.2) ((e,t,o')::L):=
 have n:=dj H.nd
 ⟨λq hq=>by
  rcases ku hq with h|h
  ·rw[h];exact⟨aA ..,no,(H.at_ _ (.head _)).2.2⟩
  ·have a:=H.at_ q (.tail _ h)
   exact⟨(aD λx:q.1=e=>n.1 (List.mem_map.mpr ⟨q,h,x⟩)).trans a.1,a.2⟩,dh n⟩
theorem gA.row(H:gA z L){P':PH}{r:Nat->Ad}{a:Ad}{pv:Va}(nr:G1 z.P P' r a pv)(i:Nat):
  gA (z.pu P' nr.pu) ((r 5,(5,i),.list (0,0) [])::(r 4,(4,i),.list (0,0) [])::(r 3,(3,i),.dict (0,0) [])::(r 2,(2,i),.dict (0,0) [])::(r 1,(1,i),.dict (0,0) [])::(r 0,(0,i),.dict (0,0) [("thing",.ref a),("parent",pv),("methods",.ref (r 1)),("alone",.ref (r 2)),("consts",.ref (r 3)),("mixed",.ref (r 4)),("front",.ref (r 5))])::L):=by
 have f:∀ k,k<6->r k∉L.map (·.1):=λk h=>H.fresh (nr.fr k h);have u:∀ k,k<6->(z.pu P' nr.pu).h (r k)=none:=λk h=>z.un (nr.fr k h);refine⟨λq hq=>?_,?_⟩
 ·rcases ku hq with h|hq
  ·rw[h];exact⟨nr.VC,rfl,u 5 ()⟩
  rcases ku hq with h|hq
  ·rw[h];exact⟨nr.VB,rfl,u 4 ()⟩
  rcases ku hq with h|hq
  ·rw[h];exact⟨nr.VA,rfl,u 3 ()⟩
  rcases ku hq with h|hq
  ·rw[h];exact⟨nr.at2,rfl,u 2 ()⟩
  rcases ku hq with h|hq
  ·rw[h];exact⟨nr.Vz,rfl,u 1 ()⟩
  rcases ku hq with h|hq
  ·rw[h];exact⟨nr.M9,rfl,u 0 ()⟩
  have a:=H.at_ q hq;exact⟨nr.pu _ _ a.1,a.2⟩
 ·show([r 5,r 4,r 3,r 2,r 1,r 0]++L.map (·.1)).Nodup
  refine List.nodup_append.mpr ⟨nr.ne,H.nd,λx hx y hy q=>?_⟩;subst q
  have:∃ k,k<6/\x=r k:=by
   rcases ku hx with h|hx
   ·exact⟨5,(),h⟩
   rcases ku hx with h|hx
   ·exact⟨4,(),h⟩
   rcases ku hx with h|hx
   ·exact⟨3,(),h⟩
   rcases ku hx with h|hx
   ·exact⟨2,(),h⟩
   rcases ku hx with h|hx
   ·exact⟨1,(),h⟩
   ·exact⟨0,(),cu hx⟩
  obtain⟨k,hk,rfl⟩:=this;exact f k hk hy
end
end
section
noncomputable def Ge:iX:=⟨[],[],[],[],[]⟩
noncomputable def x0(r:Nat->Nat->Ad)(th:Nat->Ad)(L:List (Ad × Tag × PO))(b:Int):Lx:=⟨r,λq q=>0,th,kG,λc=>(L.lookup c).map (·.1),(b,0),λq=>Ge⟩
variable{C:Cont}{z:Z w C []}{L:List (Ad × Tag × PO)}
noncomputable def Y.start(H:gA z L){r:Nat->Nat->Ad}{th:Nat->Ad}{b:Int}(hB:(BX,((7,99):Tag),PO.list (0,0) [.int b 0,.int 0 0])∈L)(hR:(RD,((6,99):Tag),PO.dict (0,0) (kG.map λi=>(fE i,.ref (r i 0))))∈L)
  (hr:∀ i∈kG,∀ k,k<6->(r i k,((k,i):Tag),cH (th i) (r i) (λj=>0) Ge i k)∈L) (ht:∀ i∈kG,z.A.ad i=some (th i)) (htb:∀ t,t=1122\/t=1164->(t,((8,t):Tag),PO.tab [])∈L):Y w BX RD:=
 ⟨C,z,x0 r th L b,by
  have g:∀{c t o},(c,t,o)∈L->(x0 r th L b).g c=some t:=λh=>by show(L.lookup _).map (·.1)=_;rw[vm H.nd h];rfl
  exact⟨(H.at_ _ hB).1,(H.at_ _ hR).1,λi hi k hk=>⟨(H.at_ _ (hr i hi k hk)).1,g (hr i hi k hk)⟩,λi j q hq=>absurd hq gk,ht,λc t h=>by
    have h:(L.lookup c).map (·.1)=some t:=h;cases q:L.lookup c with
    | none=>rw[q] at h;cases h
    | some v=>have a:=H.at_ _ (lookup_mem q);exact⟨a.2.2,_,a.1,a.2.1⟩,g hB,g hR,λt h=>⟨[],(H.at_ _ (htb t h)).1,g (htb t h),λk c e=>by cases e⟩⟩⟩
end
variable{z:Z w C4 []}{L:List (Ad × Tag × PO)}
theorem N9:∀ i,12<=i->C4.c i=dZ:=λi h=>by
 show(if i=16 then dZ else if i=15 then dZ else if i=13 then dZ else if i=12 then dZ else⟨[],[],wu i,[]⟩)=dZ;by_cases h22:i<22
 ·have:∀ i,i<22->12<=i->wu i=[]:=⋯
  rw[this i h22 h]
  repeat' split
  all_goals rfl
 ·have:wu i=[]:=by unfold wu;rw[aa (by lia),aa (by lia),aa (by lia)]
  rw[this]
  repeat' split
  all_goals rfl
theorem Inv.start(H:gA z L){r:Nat->Nat->Ad}{th:Nat->Ad}{b:Int}(hB:(BX,((7,99):Tag),PO.list (0,0) [.int b 0,.int 0 0])∈L)(hR:(RD,((6,99):Tag),PO.dict (0,0) (kG.map λi=>(fE i,.ref (r i 0))))∈L)
  (hr:∀ i∈kG,∀ k,k<6->(r i k,((k,i):Tag),cH (th i) (r i) (λj=>0) Ge i k)∈L) (ht:∀ i∈kG,z.A.ad i=some (th i)) (htb:∀ t,t=1122\/t=1164->(t,((8,t):Tag),PO.tab [])∈L) {a1 a3:Ad} (h1:z.A.ad 1=some a1) (h3:z.A.ad 3=some a3):Inv (Y.start H hB hR hr ht htb):=by
 have ow:∀{i o},cV i=some o->12<=o->C4.c o=dZ:=λj h=>N9 _ h;refine⟨⟨(by decide +kernel:∀ i∈kG,i∈pN),(by decide +kernel:12∈kG/\15∈kG/\16∈kG),λi=>(by decide +kernel:([]:List Nat)∈oG/\([]:List Nat)∈oG)⟩,λi hi=>?_,N8,Tt,⟨⟨a1,h1⟩,⟨a3,h3⟩⟩,λi o h q hq=>?_,Tu,λh=>⟨Bf z rfl (),N9 14 ()⟩,eu _⟩
 ·have:∀ i∈kG,12<=i:=⋯
  show Ge=rowOf C4 i;unfold rowOf;rw[N9 i (this i hi)]
  have:tB C4 i=[]:=by
   unfold tB;cases h:cV i with
   | none=>rfl
   | some o=>dsimp only;rw[(N8 i o h rfl).2];rfl
  rw[this];rfl
 ·have hq:q∈(C4.c o).mt:=hq
  rw[(N8 i o h rfl).2] at hq;exact absurd hq gk
section
variable{m:Nat}{X:XP}{Q:VQ}{P0:PH}
theorem Hy{nd:Ad}{R:Ad->PH->Prop}(hnd:P0 nd=some (.dict (0,0) []))(hq:∀(w:Wc) (z:Z w C0 []) b,z.A.ad 1=some b->(∀ c o,P0 c=some o->o.bR=false->c≠nd->z.P c=some o/\z.h c=none)->R w.W z.P):
  ∀ a,P0 a=none->Calls (m+31) 815 [.ref a,.ref nd] (upd P0 a (.inst 1055 [])) X λv P'=>v=.none/\R a P':=λa ha=>Calls.mono (K2 (m:=m) (Q:=λv P'=>∃ a,v=.ref a/\R a P') hnd (λw z b h f=>⟨_,rfl,hq w z b h f⟩) a ha) (f7 _) (λq q h=>h) λq q h=>⟨h.1,by obtain⟨_,b,e,h⟩:=h;cases e;exact h⟩
end
theorem qE{r:Nat->Ad}{a:Ad}{i:Nat}:∀ k,k<6->(r k,((k,i):Tag),cH a r (λq=>0) Ge i k)∈gP r a (nX i) i
 | 0,_=>.tail _ (.tail _ (.tail _ (.tail _ (.tail _ (.head _)))))
 | 1,_=>.tail _ (.tail _ (.tail _ (.tail _ (.head _))))
 | 2,_=>.tail _ (.tail _ (.tail _ (.head _)))
 | 3,_=>.tail _ (.tail _ (.head _))
 | 4,_=>.tail _ (.head _)
 | 5,_=>.head _
 | k+6,h=>absurd h (by lia)
section
variable{m:Nat}{X:XP}{Q:VQ}{w:Wc}{C:Cont}
theorem gA.perm{z:Z w C []}{L L':List (Ad × Tag × PO)}(H:gA z L)(p:L.Perm L'):gA z L':=⟨λq h=>H.at_ q (p.mem_iff.mpr h),(p.map _).nodup_iff.mp H.nd⟩
theorem DG{z:Z w C []}{L:List (Ad × Tag × PO)}(H:gA z L)(i:Nat){a:Ad}{pv:Va}(hq:∀(z':Z w C []) r,Le z z'->gA z' (gP r a pv i++L)->Q (.ref (r 0)) z'.P):Calls (m+1) 1094 [.ref a,pv] z.P X Q:=xJ λP' r nr=>hq (z.pu P' nr.pu) r ((Le.refl z).pu _ nr.pu) (H.row nr i)
theorem Oq{z:Z w C0 []}{a1:Ad}(ha1:z.A.ad 1=some a1){L:List (Ad × Tag × PO)}(H:gA z L){BX sc:Ad}{lg:Int}{N:NP}
  (hq:∀(z':Z w C4 []) RD rB rC rM rN wQ Ae BV BW,gA z' ((RD,(6,99),.dict (0,0) [("B",.ref (rB 0)),("C",.ref (rC 0)),("M",.ref (rM 0)),("N",.ref (rN 0))])::(gP rN BW .none 16++(gP rM BV .none 15++(gP rC Ae (.str "B" 0) 13++(gP rB wQ .none 12++L)))))->z'.A.ad 12=some wQ->z'.A.ad 13=some Ae->z'.A.ad 15=some BV->z'.A.ad 16=some BW->z'.A.ad 1=some a1->wpS (m+40) Cu (bV 4 sD) (some (.ref sc)::some (.ref BX)::some (.int lg 0)::some (.ref w.W)::some (.ref wQ)::some (.ref RD)::nN 21) z'.P X N Q):
  wpS (m+40) Cu (bV 1 sD) (some (.ref sc)::some (.ref BX)::some (.int lg 0)::some (.ref w.W)::nN 23) z.P X N Q:=by refine aU z.K.W oJ.1 (by rw[oJ.2];trivial) (dF (m:=m+39) (i:=1) z rfl ha1 (Ng (m:=m+35) (i:=12) (p:=1) z ha1 ha1 (.inl ⟨rfl,rfl⟩) (Bf z rfl ()) rfl λz1 wQ l1 h12=>⟨⟨(),(),()⟩,λd hd=>?_⟩));let z2:=z1.new d (.dict (0,0) []) hd;have H2:gA z2 ((d,(6,99),.dict (0,0) [])::L):=(H.le l1).new hd _ rfl;refine DG (m:=m+39) H2 12 λz3 rB l3 H3=>?_;have b3:=(l3.ad _ _ (l1.ad _ _ ha1).1).1;have c3:=(l3.ad _ _ h12).1;refine Ng (m:=m+35) (i:=13) (p:=12) z3 b3 c3 (.inr ⟨rfl,rfl⟩) (Bf z3 rfl ()) rfl λz4 Ae l4 lW=>DG (m:=m+39) (H3.le l4) 13 λz5 rC l5 H5=>?_;have H6:gA z5 ((d,(6,99),.dict (0,0) [])::(gP rC Ae (.str "B" 0) 13++(gP rB wQ .none 12++L))):=H5.perm (by rw[<-i0];refine List.perm_middle.trans ?_;rw[i0]);refine⟨rfl,(H6.at_ _ (.head _)).1,?_⟩;have H7:=H6.put (o':=.dict (0,0) [("B",.ref (rB 0)),("C",.ref (rC 0))]) rfl;let z7:=z5.put d (.dict (0,0) [("B",.ref (rB 0)),("C",.ref (rC 0))]) (H6.at_ _ (.head _)).2.2;have b7:z7.A.ad 1=some a1:=(l5.ad _ _ (l4.ad _ _ b3).1).1;have c7:z7.A.ad 12=some wQ:=(l5.ad _ _ (l4.ad _ _ c3).1).1;have d7:z7.A.ad 13=some Ae:=(l5.ad _ _ lW).1;refine Nh (m:=m+35) (i:=15) z7 b7 (.inl rfl) (Bf z7 rfl ()) rfl λz8 BV l8 h15=>DG (m:=m+39) (H7.le l8) 15 λz9 rM l9 H9=>?_;refine Nh (m:=m+35) (i:=16) z9 (l9.ad _ _ (l8.ad _ _ b7).1).1 (.inr rfl) (Bf z9 rfl ()) rfl λEC BW l10 h16=>DG (m:=m+39) (H9.le l10) 16 λBQ rN l11 H11=>?_;have H12:gA BQ ((d,(6,99),.dict (0,0) [("B",.ref (rB 0)),("C",.ref (rC 0))])::(gP rN BW .none 16++(gP rM BV .none 15++(gP rC Ae (.str "B" 0) 13++(gP rB wQ .none 12++L))))):=H11.perm (by rw[<-i0];refine List.perm_middle.trans ?_;rw[i0]);refine uW (H12.at_ _ (.head _)).1 ⟨bl,?_⟩;have H13:=H12.put (o':=.dict (0,0) [("B",.ref (rB 0)),("C",.ref (rC 0)),("M",.ref (rM 0))]) rfl;refine uW (aA ..) ⟨bl,?_⟩;have H14:=H13.put (o':=.dict (0,0) [("B",.ref (rB 0)),("C",.ref (rC 0)),("M",.ref (rM 0)),("N",.ref (rN 0))]) rfl;have k:∀{i e},z9.A.ad i=some e->BQ.A.ad i=some e:=λh=>(l11.ad _ _ (l10.ad _ _ h).1).1;have k':∀{i e},z7.A.ad i=some e->BQ.A.ad i=some e:=λh=>k (l9.ad _ _ (l8.ad _ _ h).1).1;exact hq _ d rB rC rM rN wQ Ae BV BW H14 (k' c7) (k' d7) (k (l9.ad _ _ h15).1) (l11.ad _ _ h16).1 (k' b7)
end
noncomputable def yc{α:Type}(a b c d:α)(i:Nat):α:=if i=12 then a else if i=13 then b else if i=15 then c else d
theorem uZ{p:Nat->Prop}(a:p 12)(b:p 13)(c:p 15)(d:p 16):∀ i∈kG,p i:=λi hi=>by
 rcases ku hi with h|hi
 ·rw[h];exact a
 rcases ku hi with h|hi
 ·rw[h];exact b
 rcases ku hi with h|hi
 ·rw[h];exact c
 ·rw[cu hi];exact d
theorem Fp:pQ w BX RD:=by
 intro m X Q N z sc b rB rC rM rN wQ Ae BV BW a1 lg H h12 lW h15 h16 h1 hlg hq;obtain⟨c,h3⟩:=TP z h1;obtain⟨lg,hlk,rfl⟩:∃ k:Nat,k<=1/\lg=k:=by
  rcases hlg with h|h
  ·exact⟨0,(),h⟩
  ·exact⟨1,(),h⟩
 have mB:∀ q,q∈L0 BX b->q∈(RD,((6,99):Tag),PO.dict (0,0) [("B",.ref (rB 0)),("C",.ref (rC 0)),("M",.ref (rM 0)),("N",.ref (rN 0))])::(gP rN BW .none 16++(gP rM BV .none 15++(gP rC Ae (.str "B" 0) 13++(gP rB wQ .none 12++L0 BX b)))):=λq h=>.tail _ (fq _ (fq _ (fq _ (fq _ h))));have hB:=mB _ (.head _)
 have hr:∀ i∈kG,∀ k,k<6->(yc rB rC rM rN i k,((k,i):Tag),cH (yc wQ Ae BV BW i) (yc rB rC rM rN i) (λ_=>0) Ge i k)∈(RD,((6,99):Tag),PO.dict (0,0) [("B",.ref (rB 0)),("C",.ref (rC 0)),("M",.ref (rM 0)),("N",.ref (rN 0))])::(gP rN BW .none 16++(gP rM BV .none 15++(gP rC Ae (.str "B" 0) 13++(gP rB wQ .none 12++L0 BX b)))):=
  uZ (λk hk=>.tail _ (fq _ (fq _ (fq _ (fh _ (qE (i:=12) k hk))))))
   (λk hk=>.tail _ (fq _ (fq _ (fh _ (qE (i:=13) k hk)))))
   (λk hk=>.tail _ (fq _ (fh _ (qE (i:=15) k hk))))
   (λk hk=>.tail _ (fh _ (qE (i:=16) k hk)))
 have ht:∀ i∈kG,z.A.ad i=some (yc wQ Ae BV BW i):=uZ h12 lW h15 h16
 have htb:∀ t,t=1122\/t=1164->(t,((8,t):Tag),PO.tab [])∈(RD,((6,99):Tag),PO.dict (0,0) [("B",.ref (rB 0)),("C",.ref (rC 0)),("M",.ref (rM 0)),("N",.ref (rN 0))])::(gP rN BW .none 16++(gP rM BV .none 15++(gP rC Ae (.str "B" 0) 13++(gP rB wQ .none 12++L0 BX b)))):=λt h=>by
  rcases h with rfl|rfl
  ·exact mB _ (.tail _ (.head _))
  ·exact mB _ (.tail _ (.tail _ (.head _)))
 let y0:=Y.start (z:=z) (r:=yc rB rC rM rN) (th:=yc wQ Ae BV BW) H hB (.head _) hr ht htb;have I0:Inv y0:=Inv.start H hB (.head _) hr ht htb h1 h3;refine⟨bl,λea hea=>⟨bl,λen hen=>⟨bl,λtt htt=>nZ (aA ..) ⟨rfl,?_⟩⟩⟩⟩;let y1:=y0.go (y0.z.new ea (.list (0,0) Aj) hea) ((Le.refl y0.z).new _ hea);have n1:Nx 0 y0 y1:=(Nx.refl I0).go _ _;have ka1:Kept y1 ea Aj:=⟨aA ..,y0.z.un hea,y0.xy hea⟩
 let y2:=y1.go (y1.z.new en (.list (0,0) (fS [13,13,12,15])) hen) ((Le.refl y1.z).new _ hen);have n2:Nx 0 y1 y2:=(Nx.refl n1.I).go _ _;have kn2:Kept y2 en (fS [13,13,12,15]):=⟨aA ..,y1.z.un hen,y1.xy hen⟩
 let y3:=y2.go (y2.z.new tt (.tup [.ref ea,.ref en]) htt) ((Le.refl y2.z).new _ htt);have n3:Nx 0 y2 y3:=(Nx.refl n2.I).go _ _;have hs:∀ i∈([13,13,12,15]:List Nat),i∈y3.x.ids/\(i=12\/i=13\/i=14\/i=15):=(by decide +kernel:∀ i∈([13,13,12,15]:List Nat),i∈kG/\(i=12\/i=13\/i=14\/i=15))
 have T:Turn y3 0 (2+2*lg) ea en [13,13,12,15]:=⟨n3.I,(by decide +kernel:13∈kG),λ_=>rfl,eu _,(ka1.of n2.f).of n3.f,kn2.of n3.f,hs,(),()⟩
 have fin:=λ{N':NP} (hN:∀ l (y:Y w BX RD),N' l y.z.P)=>turns (m:=m) (X:=X) (Q:=Q) (sc:=sc) (ba:=wQ) (ea:=ea) hlk (N:=N') hN (4+6*lg) 0 y3 en _ none none none none (by omega) T;rcases (by omega:lg=0\/lg=1) with rfl|rfl
 ·exact⟨(),⟨(),()⟩,fin λ_ y=>hq _ λt ht=>(y.L.tb t ht).imp λ_ q=>q.1⟩
 ·exact⟨(),⟨(),()⟩,fin λ_ y=>hq _ λt ht=>(y.L.tb t ht).imp λ_ q=>q.1⟩
section
variable{m:Nat}{X:XP}{Q:VQ}{w:Wc}{C:Cont}
theorem RE:∀ c:Bool,(if c=true then 1 else 0:Int)=0\/(if c=true then 1 else 0:Int)=1:=by decide
theorem Q8{P0:PH}(hs:KI)(h1:P0 1122=some (.tab []))(h2:P0 1164=some (.tab []))(hq:∀ P',Og P'->Q (.bool true) P'):wpS (m+40) (List.replicate 27 false) sD (some (.ref wj)::List.replicate 26 none) P0 X (λ_ P'=>Q .none P') Q:=by
 refine(ER (m:=m+39) hs λP1 f b p1 f1 hf ns=>Uo (NY hs ns) (by rw[ef];exact hs.2) λnd hnd=>(Hy (m:=m+8) (aA ..) (λw z a1 ha1 fr=>⟨bl,λtt htt=>nZ (aA ..) ⟨rfl,?_⟩⟩)))
 have H:gA (z.new tt (.tup [.ref f,.int (if decide ((1:Int)<((Jq.map λi=>Value.int i 0).length:Int))=true then 1 else 0) 0,.ref w.W]) htt) (L0 f b):=by
  have q:∀ c o,P1 c=some o->o.bR=false->z.P c=some o/\o.bR=false/\z.h c=none:=λc o h no=>have n:c≠nd:=λe=>by rw[e,hnd] at h;cases h
   have r:=fr c o (aI h hnd) no n;⟨r.1,no,r.2⟩
  refine gA.le (z:=z) ⟨λx hx=>?_,?_⟩ ((Le.refl z).new _ htt)
  ·rcases ku hx with h|hx
   ·rw[h];exact q _ _ hf rfl
   rcases ku hx with h|hx
   ·rw[h];exact q _ _ (p1 _ _ h1) rfl
   ·rw[cu hx];exact q _ _ (p1 _ _ h2) rfl
  ·have n1:f≠1122:=λe=>by rw[e,h1] at f1;cases f1
   have n2:f≠1164:=λe=>by rw[e,h2] at f1;cases f1
   exact dh ⟨λh=>by
    rcases ku h with h|h
    ·exact n1 h
    ·exact n2 (cu h),()⟩
 exact Oq (z:=z.new tt _ htt) ha1 H λz' RD rB rC rM rN wQ Ae BV BW H' x1 x2 x3 x4 x5=>LC Fp _ _ _ _ _ _ _ _ _ _ _ _ _ _ _ _ _ _ _ _ H' x1 x2 x3 x4 x5 (RE _) hq
end
noncomputable def Io(o:Obj):Array Va:=match o.data with
 | .fields vs=>vs
 | _=>#[]
theorem R7(y:YP wd aF.heap)(g:aF.heap.Ns mainGlobals mg):mg "__builtins__"=some (.ref 4):=by
 obtain⟨o,es,ep,e,hd,_,hm⟩:=g;have q:=sy y () (Iv wd.params);rw[q] at e;cases e;rw[<-hm];have:Data.dict (jL (HA.qN wd.params 121 "law_nz0059_01" 1876)).toArray (E4 (HA.qN wd.params 121 "law_nz0059_01" 1876))=Data.dict es ep:=hd
 injection this with h1 _
 rw[<-h1];exact(Jr wd.params).2
theorem NG(y:YP wd aF.heap)(g:aF.heap.Ns mainGlobals mg):QL (hideAll aF.heap [1122,1164]) mg:=by
 have X:∀{a o},((Kf wd.params).lookup a=some o)->(hideAll aF.heap [1122,1164]).get? a=some o:=λh=>have q:=Ro h;br _ (y _ _ q.1) λm=>by
  rcases ku m with e|e
  ·exact q.2.1 e
  ·exact q.2.2 (cu e)
 refine⟨λk=>?_,4,_,R7 y g,(),br _ (sy y () (OR _)) (),rfl,rfl,rfl⟩;unfold fC dP;split
 ·exact⟨_,Io (jF wd.params 1126),"/claim/cut.py",1966,3,0,true,181,0,X (show _=some (jF wd.params 1126) by kernel_rfl),by kernel_rfl,by kernel_rfl,by kernel_rfl,by kernel_rfl,by kernel_rfl,by kernel_rfl,by kernel_rfl,by kernel_rfl,()⟩
 ·exact⟨_,Io (jF wd.params 1166),"/claim/cut.py",2032,3,0,true,181,0,X (show _=some (jF wd.params 1166) by kernel_rfl),by kernel_rfl,by kernel_rfl,by kernel_rfl,by kernel_rfl,by kernel_rfl,by kernel_rfl,by kernel_rfl,by kernel_rfl,()⟩
theorem LD(G:Ground qv jY qo.records (XL qv []) wd sO mg mb aF.heap)(y:YP wd aF.heap)(hg:aF.gens=#[])(hns:Jq.length<64)
  (hs:∃ (vs:List Va) (n:Nat),aF.heap.get? wj=some (listOf vs.toArray n)/\vs.map ab=Jq.map λi=>.int i 0):
  codeAny (MM wd) callerA (.call (.ref 1174) ⟨[.ref wj],[]⟩) (λr s'=>r=.ok (.ret (.bool true))/\OldK aF.heap s'.heap/\s'.os=aF.os/\s'.gens=#[]) aF:=by
 obtain⟨st1,sn,st2⟩:=MO y hs;have ok:KI:=⟨st1,gy hns ()⟩
 have fn:Ag K 1174 (fnAt wd.params 1174) (jW wd.params 1174):=Nt wd.params vh tQ;have stay:(hideAll aF.heap [1122,1164]).StaysIn aF.heap:=λb o e=>of_hideAll _ e
 have XK:K.In (hideAll aF.heap [1122,1164]):=λa o h=>have q:=Ro h;br _ (y _ _ q.1) λm=>by
  rcases ku m with e|e
  ·exact q.2.1 e
  ·exact q.2.2 (cu e)
 have T:=topRead_of G.T;obtain⟨binds,b1,b2,b3⟩:∃ binds,BindsTo aF (fnAt wd.params 1174) ⟨[.ref wj],[]⟩ binds/\oU (fnAt wd.params 1174).scope binds/\fR (fnAt wd.params 1174).scope binds=some (.ref wj)::List.replicate 26 none:=C6 (Kh wd.params vh tQ [.ref wj] rfl) (λa o h=>stay _ _ (XK a o h):K.In aF.heap);obtain⟨o,ho,hd⟩:=fn.at_;obtain⟨cc,oc,vs,t,e1,e2,e3,e4⟩:=fn.code;have nc:∀ x∈(fnAt wd.params 1174).scope.names,x.2≠.cell:=λx hx=>by simpa using dz Fj x hx
 have hl:∀ x∈binds,(fnAt wd.params 1174).scope.names.lookup x.1=some .local:=λx hx=>(b2.kd x hx).resolve_right λq=>nc _ (mem_of_lookup q) rfl;have kin:∀{a o},K.lookup a=some o->aF.heap.get? a=some o:=λh=>stay _ _ (XK _ _ h);refine codeAny_call_function ⋯ (kin ho) hd fn.co fn.gen fn.body ⟨cc,oc,vs,t,e1,kin e2,e3,e4⟩ (b1 _ _ _ _ ?_);refine wpAny_newFunctionEnv nc hl λh' hn hsb=>?_;have kp:∀ b o,aF.heap.get? b=some o->h'.get? b=some o:=λb o e=>(hsb.2 b (gq (fy e))).trans (ek _ e);refine⟨T.nolimit.keeps kp,codeAny_func ?_⟩;generalize he:newEnv _ _ _ _ _ _ _ _ _=env;have hsc:env.scope=(fnAt wd.params 1174).scope:=by rw[<-he];rfl
 have hlo:env.locals=aF.heap.objs.size:=by rw[<-he];rfl
 have hce:env.cells=[]:=by rw[<-he];exact AZ
 have hfr:env.frame=some env.locals:=by rw[<-he];rfl
 have hcn:∀ x a,env.cells.lookup x=some a->False:=λx a h=>by rw[hce] at h;cases h
 have hnl:∀ x,env.scope.names.lookup x≠some .cell:=λx h=>nc _ (mem_of_lookup (hsc▸h)) rfl;let c:Fx:=⟨env,env,callerA.deeper env,hideAll aF.heap [1122,1164],mg,mb,[],λj=>none,aF.os⟩
 have none_L:∀{a},aF.heap.objs.size<=a->(hideAll aF.heap [1122,1164]).get? a=none:=λ{a} h=>by
  cases q:(hideAll aF.heap [1122,1164]).get? a with
  | none=>rfl
  | some o=>exact absurd (fy (stay _ _ q)) (Nat.not_lt.mpr h)
 have O:bM c:=by
  refine⟨rfl,rfl,by rw[hsc];exact fn.knd,by show env.globals=_;rw[<-he];exact fn.qN,by show env.builtins=_;rw[<-he];exact fn.KA,by rw[hsc];exact fn.nd,rfl,λj j j j j=>rfl,λx y a h=>(hcn x a h).elim,by rw[hsc,fn.knd];decide,XK,⟨zo T.g (),zo T.b (),T.nolimit.imp λmc h=>⟨zo h.1 (),h.2⟩,T.builtins,T.free⟩,⟨_,br _ (sy y () (OP _)) ()⟩,st2,λe h=>(by cases h),λx h=>absurd h (hnl x),hfr,λk hk=>?_,?_,NG y T.g⟩
  ·rw[hsc] at hk
   have q:=fn.OB k hk;refine⟨by show env.code=_;rw[<-he];exact q.1,?_⟩;show env.qual++_=_;rw[<-he];exact q.2
  ·show(hideAll aF.heap [1122,1164]).objs.size<=env.locals
   rw[hideAll_size,hlo];exact f7 _
 have Lg:(cJ (λj=>none) env.locals (dI λx=>binds.reverse.lookup x)) env.locals=some (dI λx=>binds.reverse.lookup x):=aJ ..
 have Ln:∀{a p},(cJ (λj=>none) env.locals (dI λx=>binds.reverse.lookup x)) a=some p->a=env.locals/\p=dI λx=>binds.reverse.lookup x:=λ{a p} h=>by
  by_cases q:a=env.locals
  ·subst q;rw[aJ] at h;cases h;exact⟨rfl,rfl⟩
  ·rw[aE q] at h;cases h
 have tl:∀{a},a∈([1122,1164]:List Ad)->a<aF.heap.objs.size:=λh=>fy (zP y h)
 have S:St c (fR (fnAt wd.params 1174).scope binds) (upd (upd (λj=>none) 1122 (.tab [])) 1164 (.tab [])) { aF with heap:=h',toks:=aF.toks+binds.length }:=by
  refine⟨λx=>binds.reverse.lookup x,cJ (λj=>none) env.locals (dI λx=>binds.reverse.lookup x),λj=>0,λa p h=>(by cases h),Lg,⟨_,_,hfr,Lg⟩,λx a h=>(hcn x a h).elim,λa p h=>.inr (.inl ((Ln h).2▸dY)),?_,I2 hsc fn.nd b2.nd hl,hg,rfl⟩;refine⟨λb o e=>kp _ _ (stay _ _ e),λa p h=>?_,λa o h=>?_,λa o h hd=>?_,λa o h hd=>?_,λa o b o' h hd=>?_,λa p h=>?_,λb p h a o h' hd=>?_⟩
  ·obtain⟨rfl,rfl⟩:=Ln h
   refine .of (none_L (gi hlo.symm)) ?_;rw[hlo];exact jE hn
  ·obtain⟨rfl,q⟩:=qQ h
   exact⟨hideAll_none _ q,kp _ _ (zP y q)⟩
  ·rw[(qQ h).1] at hd;cases hd
  ·rw[(qQ h).1] at hd;cases hd
  ·rw[(qQ h).1] at hd;cases hd
  ·obtain⟨rfl,rfl⟩:=Ln h
   cases q:upd (upd (λj=>none) 1122 (PO.tab [])) 1164 (.tab []) env.locals with
   | none=>rfl
   | some o=>have:=tl (qQ q).2;rw[hlo] at this;exact absurd this (ig _)
  ·rw[(qQ h').1] at hd;cases hd
 have Rm:bP 40 c.A:=⟨(by decide +kernel:callerA.depth+1+40<=990),(by decide +kernel:callerA.units+3+10*40<=9890)⟩
 have B:=yj (ql wd.params) 50 (jW wd.params 1174) c (λj j=>False) 40 rfl Rm;have hc:jK K 50 env.scope.names (jW wd.params 1174)=sD:=by rw[hsc];exact List.map_inj_left.mp (Kl wd.params) vh tQ
 have hcl:aK env.scope.names=List.replicate 27 false:=by rw[hsc];exact List.map_inj_left.mp (SX wd.params) vh tQ
 have W:=Q8 (m:=0) (X:=λj j=>False) (Q:=λv P'=>v=.bool true/\Og P') (P0:=upd (upd (λj=>none) 1122 (.tab [])) 1164 (.tab [])) ok rfl rfl λP' h=>⟨rfl,h⟩
 refine ak (B c _ _ _ _ _ rfl rfl rfl O S (by show wpS 40 (aK env.scope.names) (jK K 50 env.scope.names (jW wd.params 1174)) _ _ _ _ _;rw[hc,hcl,b3];exact W)) (λfl s'' h=>?_) λev s'' h=>?_
 ·cases fl with
  | next=>obtain⟨_,_,_,q,_⟩:=h;cases q
  | brk=>exact ck h
  | cont=>exact ck h
  | ret v=>
   obtain⟨l',P',⟨m',G',D',S'⟩,hv,tb⟩:=h
   have tt:∀{a},a∈([1122,1164]:List Ad)->∃ es,s''.heap.get? a=some (tabObj (zy es).toArray):=λ{a} h=>by
    have h:a=1122\/a=1164:=by simpa using h
    obtain⟨es,q⟩:=tb a h;exact⟨es,(S'.sat.rel a _ q).2⟩
   have ct:∀{a},a∈([1122,1164]:List Ad)->isCodeTable aF.heap a:=λ{a} h=>by
    have h:a=1122\/a=1164:=by simpa using h
    have key:∀ k,isCodeTable aF.heap (dP k):=λk=>by obtain⟨o,vs,_,_,_,_,_,_,_,q1,q2,q3,q4,_⟩:=(NG y T.g).HJ k;exact⟨fC k,o,vs,stay _ _ q1,q2,q3,q4⟩
    rcases h with rfl|rfl
    ·exact key 0
    ·exact key 900000
   refine⟨by rw[KO hv],⟨λb o e=>?_,λb o e=>?_⟩,S'.os,S'.gens⟩
   ·by_cases hb:b∈([1122,1164]:List Ad)
    ·obtain⟨es,q⟩:=tt hb
     rw[zP y hb] at e;cases e;exact .inr (.inl ⟨ct hb,rfl,#[],(zy es).toArray,rfl,by rw[q];simp [tabObj]⟩)
    ·exact .inl (S'.sat.stay _ _ (br _ e hb))
   ·by_cases hb:b∈([1122,1164]:List Ad)
    ·obtain⟨es,q⟩:=tt hb
     exact⟨_,q⟩
    ·exact⟨o,S'.sat.stay _ _ (br _ e hb)⟩
 ·obtain⟨_,_,_,_,_,_,_,_,_,_,q⟩:=h
  exact ck q
theorem CJ{R:WRecords}:∀{xs:List WData},WShape.hasItems R xs .int=true->∃ ns:List Int,xs=ns.map .int:=by
 intro rr;induction rr with
 | nil=>exactλq=>⟨[],rfl⟩
 | cons d xs ih=>intro h;have h:WShape.has R d .int=true/\WShape.hasItems R xs .int=true:=dm h;obtain⟨i,rfl⟩:=hasW_int h.1;obtain⟨ns,rfl⟩:=ih h.2;exact⟨i::ns,rfl⟩
noncomputable def Li(v:Va):WData->Prop
 | .int i=>ab v=.int i 0
 | _=>True
theorem Qy{P:Params}{h:Heap}{v:Va}{d:WData}(x:Well P h v d):Li v d:=by induction x using PySem.W.Well.casesOn<;>first|exact True.intro|exact rfl
noncomputable def Ll(P:Params)(h:Heap)(v:Va):WData->Prop
 | .list xs=>∃ a vs,v=.ref a/\h.get? a=some { cls:=.type "list",data:=.seq vs.toArray }/\WellAll P h vs xs
 | _=>True
theorem Qz{P:Params}{h:Heap}{v:Va}{d:WData}(x:Well P h v d):Ll P h v d:=by induction x using PySem.W.Well.casesOn<;>first|exact True.intro|exact⟨_,_,rfl,‹_›,‹_›⟩
noncomputable def Ln(vs:List Va):List WData->Prop
 | []=>vs=[]
 | _=>True
theorem Ku{P:Params}{h:Heap}{vs:List Va}{d:List WData}(x:WellAll P h vs d):Ln vs d:=by induction x using PySem.W.WellAll.casesOn<;>first|exact True.intro|exact rfl
theorem GS{P:Params}{h:Heap}{ns:List Int}:∀{vs:List Va},WellAll P h vs (ns.map .int)->vs.map ab=ns.map λi=>.int i 0:=by
 induction ns with
 | nil=>exactλx=>aj (List.map ab) (Ku x:_=[])
 | cons i ns ih=>intro vs x;obtain⟨v,vs',e,a,b⟩:=wellAll_cons_inv x;rw[e];show ab v::vs'.map ab=.int i 0::ns.map λi=>.int i 0;rw[show ab v=.int i 0 from Qy a,ih b]
theorem Mp{xs:List WData}(h:qo.claim.pre [.list xs]=true):xs.length<64:=by
 have h:=(pre_splitW h).2;have e:qo.pre.holds qo.records { args:=[.list xs] }=WTm.holds qo.records (.and (.not (.lit (.bool (decide ((63:Int)<(xs.length:Int)))))) (.lit (.bool true))) { args:=[] }:=by kernel_rfl
 have g:∀ b,WTm.holds qo.records (.and (.not (.lit (.bool b))) (.lit (.bool true))) { args:=[] }=!b:=λb=>by induction b<;>rfl
 have h:=(g _).symm.trans (e.symm.trans h);have h:¬ (63:Int)<(xs.length:Int):=of_decide_eq_false ((i6 _).mp h);lia
theorem script{P:Params}{h:Heap}{args:List WData}{vals:List Va}(hp:qo.claim.pre args=true)(hw:WellAll P h vals args):∃ (sc:Ad) (ns:List Int),vals=[.ref sc]/\ns.length<64/\∃ (vs:List Va) (n:Nat),h.get? sc=some (listOf vs.toArray n)/\vs.map ab=ns.map λi=>.int i 0:=by
 obtain⟨d,r,e1,h1,h2⟩:=hasAllW_cons (pre_splitW hp).1;have e2:=hasAllW_nil h2;obtain⟨xs,e3,h3⟩:=hasW_list h1;obtain⟨ns,e4⟩:=CJ h3;have e:args=[.list (ns.map .int)]:=by rw[e1,e2,e3,e4]
 subst e;obtain⟨v,vs',e5,w1,w2⟩:=wellAll_cons_inv hw;obtain⟨sc,vs,e6,g,wa⟩:=Qz w1;exact⟨sc,ns,by rw[e5,e6,(Ku w2:_=[])],(ef (as:=ns) WData.int)▸Mp hp,vs,0,g,GS wa⟩
theorem Mn(args:List WData):qo.claim.post args (.bool true) args=true:=by kernel_rfl
theorem Pe{w:World}{sO:Sh}{mg mb:Str->Op Va}{h:Heap}(G:Ground qv jY qo.records (XL qv []) w sO mg mb h)(y:YP w h):mg "law"=some (.ref 1174):=by obtain⟨o,es,ep,e,hd,_,hm⟩:=G.T.g;have q:=(y _ _ (Iu () (Iv w.params))).symm.trans e;have q:Data.dict (jL (HA.qN w.params 121 "law_nz0059_01" 1876)).toArray (E4 (HA.qN w.params 121 "law_nz0059_01" 1876))=Data.dict es ep:=(aj Obj.data (kr q)).trans hd;rw[<-hm,<-(Data.dict.inj q).1];exact(Jr w.params).1
theorem walk:WalkO qv jY (XL qv []) YP qo Pc [] (λf vs=>PySem.call f vs):=by
 intro w sO aF mg mb G y a o pm cd doc dV kV _ _ _ _ hm hg args vals as hpre _ _ hw hno;refine Classical.byContradiction λng=>?_;obtain⟨sc,ns,e,hl,hz⟩:=script hpre hw;subst e;have ea:a=1174:=Value.ref.inj (kr (hm.symm.trans (Pe G y)));subst ea;have bad:∃ x:World × Ad × List Int,UO x.1 x.2.1 x.2.2:=⟨(w,sc,ns),sO,aF,mg,mb,_,G,y,hg,hpre,hl,hz,ng⟩
 obtain⟨sO,aF,mg,mb,args,G,y,hg,hpre,hl,hs,ng⟩:=Classical.epsilon_spec bad;refine ng (wpAny_call (codeAny_mono (LD G y hg hl hs) λr s' h=>?_));obtain⟨rfl,h1,h2,h3⟩:=h;refine⟨.inl ⟨_,.bool true,[],rfl,λq=>rfl,.bool true,?_,λq=>⟨.nil,λq h=>nomatch h⟩⟩,h1,h2,.of_eq h3⟩;exact Mn args
theorem Fo:PySem.Challenge.rw_nz0059_01.Holds:=head walk
end Mine
theorem PySem.Challenge.cw_nz0059_01_holds : PySem.Challenge.rw_nz0059_01.Holds :=
 Mine.Fo
