import PyProof.Rows.All
import Wide.All
import OpenK.AllK
import Wide.FinOn
import KE.LcTurns
import KE.KItemsList
import KE.KDictList
import KE.KIsAll
import KE.KItem
import KE.KRevSl
import KE.KListMore
import KE.KDictOf
import Lean
import PySem.Challenge.RW_nz0059_01
open PySem PySem.W PyProof.Rows PySem.Calls
set_option maxRecDepth 100000
set_option Elab.async false
set_option genSizeOf false
set_option bootstrap.genMatcherCode false
set_option compiler.extract_closed false
set_option tactic.hygienic false
set_option linter.all false
set_option maxHeartbeats 2000000
namespace Mine
local macro_rules |`(())=>`(by decide)
local macro_rules |`(⋯)=>`(by decide +kernel)
set_option genInjectivity false
abbrev Va:=Value
abbrev Ad:=Addr
abbrev Sh:=Shared
abbrev Op:=Option
abbrev Lv:=List (Option Value)
abbrev VS:=Value→Shared→Prop
theorem bl{a b:Nat}(h:Nat.ble a b=true:=by rfl):a≤b:=Nat.le_of_ble_eq_true h
def aa:=@if_neg
def af:=@wpAny_bind
def ai:=@if_pos
def aj:=@congrArg
def ak:=@wpAny_mono
def aq:=@wpAny_pure
def au:=@decide_eq_true
def av:=@decide_eq_false
def ay:=@wpAny_holding
def az:=@beq_iff_eq
def bg:=@beq_self_eq_true
def bh:=@wpAny_loadPart_at
def bk:=@kia_one
def bq:=@wpAny_execs_nil
def br:=@hideAll_get
def bu:=@beq_false_of_ne
def bw:=@wpAny_truthy_bool
def bz:=@strKind_is
def b8:=@wpAny_isSubtype_exc
def b9:=@wpAny_standAt
def cg:=@wpAny_field
noncomputable def ck.{u}{p:Sort u}(h:False):p:=h.elim
theorem cu{α:Type}{a b:α}(h:a∈[b]):a=b:=List.mem_singleton.mp h
theorem cy{α:Type}{a:α}{l m:List α}(h:a∈l++m):a∈l\/a∈m:=List.mem_append.mp h
theorem cz{α:Type}{x:Op α}(h:x.isSome):∃a,x=some a:=Option.isSome_iff_exists.mp h
theorem dg{α β:Type}{x:Op α}{f:α->Op β}{b:β}(h:x.bind f=some b):∃a,x=some a/\f a=some b:=Option.bind_eq_some_iff.mp h
theorem dh{α:Type}{a:α}{l:List α}(h:a∉l/\l.Nodup):(a::l).Nodup:=List.nodup_cons.mpr h
theorem dj{α:Type}{a:α}{l:List α}(h:(a::l).Nodup):a∉l/\l.Nodup:=List.nodup_cons.mp h
theorem dm{a b:Bool}(h:(a&&b)=true):a=true/\b=true:=Bool.and_eq_true_iff.mp h
theorem dw{α β:Type}{x:Op α}{f:α->β}{b:β}(h:x.map f=some b):∃a,x=some a/\f a=b:=Option.map_eq_some_iff.mp h
theorem dz{α:Type}{l:List α}{p:α->Bool}(h:l.all p=true):∀x∈l,p x=true:=List.all_eq_true.mp h
theorem d8{α:Type}{a:α}{l:List α}(h:a∈l.reverse):a∈l:=List.mem_reverse.mp h
theorem d9{α:Type}{a:α}{l:List α}{p:α->Bool}(h:a∈l.filter p):a∈l/\p a=true:=List.mem_filter.mp h
def ef:=@List.length_map
def ek:=@Heap.get?_push_of_some
def eu:=@Int.le_refl
def e9:=@Bool.and_eq_true
def fh:=@List.mem_append_left
def fj:=@Heap.get?_push_size
def fq:=@List.mem_append_right
def fu:=@Nat.le_trans
def fy:=@Heap.lt_size
def f6:=@List.lookup_cons
def f7:=@Nat.le_refl
def f9:=@List.getElem?_eq_getElem
def gh:=@List.length_reverse
def gi:=@Nat.le_of_eq
def gj:=@List.getElem?_map
def gk:=@List.not_mem_nil
def gn:=@List.map_cons
def gq:=@Nat.ne_of_lt
def gr:=@Nat.lt_of_lt_of_le
def gu:=@List.length_append
def gw:=@List.getD_eq_getElem?_getD
def gy:=@Nat.lt_trans
def gz:=@Ne.symm
def g4:=@List.mem_of_getElem?
def g5:=@Int.le_add_one
def g7:=@PySem.Calls.spliced_nil
def g8:=@PySem.Calls.spliced_cons
def g9:=@Heap.get?_update_self
def ia:=@Heap.get?_update_other
def ie:=@List.size_toArray
def ig:=@Nat.lt_irrefl
def ir:=@List.map_map
def iw:=@Fast.te14364793385576792824
def iy:=@Fast.te10110043849684766642
def iz:=@Int.lt_trans
def i0:=@List.append_assoc
def i6:=@Bool.not_eq_true'
def i7:=@Option.map_some
def i8:=@List.map_append
def i9:=@List.length_cons
def ja:=@Nat.le_of_lt
def jb:=@Prod.mk.inj
def jc:=@Heap.size_push
def jd:=@List.mem_cons_of_mem
def je:=@Option.some.injEq
def jf:=@PySem.F.excBase_ValueError
def jg:=@List.length_singleton
def jh:=@List.length_filter_le
def ji:=@List.getElem?_eq_none
def jj:=@List.nodup_cons
def jk:=@List.append_nil
def jl:=@List.map_reverse
def jm:=@PySem.wpAny_assign_Name
def jo:=@List.any_cons
def jq:=@Nat.le_of_lt_succ
def jr:=@Nat.ne_of_gt
def jt:=@Int.le_trans
def jv:=@Option.bind_some
def jw:=@List.exists_cons_of_length_eq_add_one
def jx:=@List.mem_map_of_mem
def jy:=@List.map_congr_left
def jz:=@PySem.wpAny_assign_Tuple
def j0:=@Nat.not_lt_zero
def j3:=@List.length_nil
def j4:=@Bool.or_eq_true
def j5:=@Nat.zero_le
def j6:=@Nat.lt_succ_of_le
def j7:=@PySem.F.slot_dict_get
def j8:=@Nat.succ_le_succ
def j9:=@List.getElem_mem
def kh:=@List.mem_cons
def ki:=@Nat.le_succ
def kj:=@List.eq_nil_of_length_eq_zero
def kq:=@List.nil_append
theorem kr{α:Type}{a b:α}(h:some a=some b):a=b:=Option.some.inj h
theorem ku{α:Type}{a b:α}{l:List α}(h:a∈b::l):a=b\/a∈l:=List.mem_cons.mp h
theorem k6{a b c:Nat}(h:a<=b)(k:b<c):a<c:=Nat.lt_of_le_of_lt h k
noncomputable abbrev pw:Program:=PySem.Challenge.pw_nz0059_01
noncomputable def jS:List Str:=(["_wall","SIMPLE_ESCAPES","OPERATORS","DEEPEST_KEY","Thing","Text","ListThing","TableThing","RangeThing","ProcThing","ErrorThing","FiberThing","ModuleThing","Entry","truth","sort_of"]:List Str)++(["same","code_of","is_word","is_word_things","is_label","is_plain_symbol","full_name","show_letter","show_text","show_symbol","show_pair","show_range","show_thing","show_error","show","LETTERS"]:List Str)++(["DIGITS","name_in","is_word_coretools","constant_name","need_module","need_mixed","copy_into","copy_proc","copy_module","copy_of","make_class","make_module","has_thing","own_line","ahead_count","made_line"]:List Str)++(["line_of","PRIVATE_NAMES","PRIVATE_KERNEL","GivenEntry","sight_of","given_entry","entry_at","first_entry","find","raise_version","need_unfrozen","own_module","define","place_entry","kind_word","need_entry"]:List Str)++(["undefine","remove","copied","alias","set_sight","need_mixin","include","prepend","respond","object_respond","copy_own","object_dup","object_clone","module_name","module_line","module_include"]:List Str)++(["module_prepend","module_remove","module_undef","module_alias","constant_from","constant_path","module_constant","module_set_constant","class_parent","GemError","Raised","MODULES","BUILTINS","MIXED","UNMADE","World"]:List Str)++(["is_around","_law_box","_law_take","_law_error","_law_row","_law_line","_law_found","_law_marked","_law_defined","_law_named","_law_mixed","_law_kept","_law_copied","_law_const","_law_alone","_law_both_right"]:List Str)
noncomputable def Tn:List Stmt:=pw.main.body.drop 121
noncomputable def qv:Program:={ pw with main:={ pw.main with body:=Tn } }
section
namespace HA
noncomputable def s(x:String)(t:Nat):Va:=.str (Str.ofString x) t
noncomputable def i(x t:Nat):Va:=.int (Int.ofNat x) t
noncomputable def r(a:Nat):Va:=.ref a
noncomputable def d(P:Params)(x:String)(t:Nat)(v:Va):DictEntry:=⟨PyData.keyHash P (Str.ofString x),.str (Str.ofString x) t,v⟩
noncomputable def t(l:List Va):Obj:={ cls:=.type "tuple",data:=.seq l.toArray }
noncomputable def fl(l:List Va):Obj:={ cls:=.none,data:=.fields l.toArray }
noncomputable def fd(c:Va)(l:List Va):Obj:={ cls:=c,data:=.fields l.toArray }
noncomputable def co(l:List Va):Obj:={ cls:=.type "code",data:=.fields l.toArray }
noncomputable def fr(l:Lv):Obj:={ cls:=.type "frame",slots:=l.toArray }
noncomputable def dc(l:List DictEntry)(k:Nat):Obj:={ cls:=.type "dict",data:=.dict l.toArray k }
noncomputable def cl(n:String)(b m:List Va)(ns:Nat)(su:List Va)(sl:Lv):Obj:={ cls:=.type "type",data:=.cls { name:=Str.ofString n,bases:=b,mro:=m,ns:=ns,qualname:=Str.ofString n,subclasses:=su },slots:=sl.toArray }
noncomputable def parts(x:Stmt):Arguments × List Stmt × Scope × Str × Nat:=match x with
 | .FunctionDef n a b _ _ _ s _ _ p=>(a,b,s,n,p.line)
 | .ClassDef n _ _ b _ _ _ _ _ _ _=>(⟨[],[],none,[],[],none,[]⟩,b,default,n,0)
 | _=>(⟨[],[],none,[],[],none,[]⟩,[],default,"",0)
noncomputable def Ks(x:Stmt):List Stmt:=(parts x).2.1
noncomputable def vj(x:Stmt):Str:=(parts x).2.2.2.1
noncomputable def MX(x:Stmt):List Str:=((parts x).2.2.1.names.filter λq=>q.2==.local).map (·.1)
noncomputable def Ux(l:List Stmt)(k:Nat):Stmt:=(l.drop k).headD (.Pass ⟨0,0,0,0⟩)
noncomputable def f1(k:Nat):Stmt:=Ux pw.main.body k
noncomputable def f2(k j:Nat):Stmt:=Ux (Ks (f1 k)) j
noncomputable def ft(x:Stmt)(q:Str):Obj:={ cls:=.none,data:=.func { name:=vj x,qualname:=q,params:=(parts x).1,body:=.stmts (parts x).2.1,scope:=(parts x).2.2.1,globals:=0,closure:=[],defaults:=.none,kwdefaults:=.none } }
noncomputable def fn(x:Stmt)(q:Str)(df:Va)(m:String)(mt:Nat)(c:Nat):Obj:={ cls:=.type "function",data:=.func { name:=vj x,qualname:=q,params:=(parts x).1,body:=.stmts (parts x).2.1,scope:=(parts x).2.2.1,globals:=3,closure:=[],defaults:=df,kwdefaults:=.none,pyModule:=.str (Str.ofString m) mt,code:=.ref c } }
noncomputable def g(L c:Nat)(z:List Va):List Va:=i L 0::i 4 0::r c::z
noncomputable def h(L c:Nat)(z:List Va):List Va:=i L 0::i 0 0::r c::z
noncomputable def dr(P:Params)(x:String)(k a:Nat)(z:List DictEntry):List DictEntry:=d P x k (r a)::z
noncomputable def sv(x:Str)(k:Nat):Va:=.str x k
noncomputable def nl:Nat->List Str->List Va
 | _,[]=>[]
 | k,x::z=>sv x k::nl (k+1) z
noncomputable def tn(k:Nat)(l:List String):Obj:=t (nl k (l.map Str.ofString))
noncomputable def t0:Obj:=t []
noncomputable def Um:Obj:=fl []
noncomputable def fp:Obj:=fd (.type "builtin_function_or_method") [.builtin "type.__prepare__",.type "type"]
noncomputable def fa(a:Nat):Obj:=fd (.type "builtin_function_or_method") [.builtin "object.__init_subclass__",r a]
noncomputable def fs(a:Nat):Obj:=fd (.type "super") [r a,r a,r a]
noncomputable def cb(n:String)(k L a:Nat):Obj:=co [s n k,s n (k+1),s "/claim/cut.py" (k+2),i L 0,i 0 0,i 0 0,i 0 0,i 0 0,r a,.bool false,i 181 0,r (a+1),.none,.none,.none,.none,i (k+3) 0,i L 0,s "/claim/cut.py" (k+4)]
noncomputable def fz(a b:Nat)(m:String)(mt:Nat):Obj:=fr [some (r a),some (r 3),some (r b),none,some (s m mt),none,some (r 0)]
noncomputable def D(m:String)(mt:Nat)(x:Stmt)(q:Str)(df:Va)(cs ps:List Va)(k c:Nat)(z:List Obj):List Obj:=t cs::fl ps::t (nl (k+3) (MX x))::t []::ft x q::co [sv (vj x) k,sv q (k+1),s "/claim/cut.py" (k+2),i (parts x).2.2.2.2 0,i (parts x).1.args.length 0,i 0 0,i 0 0,i 3 0,r (c-5),.bool true,i 181 0,r (c-4),.none,r (c-3),r (c-2),r (c-1),i (k+3+(MX x).length) 0,i (parts x).2.2.2.2 0,s "/claim/cut.py" (k+4+(MX x).length)]::fn x q df m mt c::z
noncomputable def E(m:String)(mt:Nat)(x:Stmt)(q:Str)(df:Va)(k c:Nat)(z:List Obj):List Obj:=t []::fl []::ft x q::co [sv (vj x) k,sv q (k+1),s "/claim/cut.py" (k+2),i (parts x).2.2.2.2 0,i (parts x).1.args.length 0,i 0 0,i 0 0,i 3 0,r (c-3),.bool true,i 181 0,r (c-2),.none,.none,.none,r (c-1),i (k+3) 0,i (parts x).2.2.2.2 0,s "/claim/cut.py" (k+4)]::fn x q df m mt c::z
noncomputable def qn(a b:Nat):Str:=vj (f1 a)++(".":Str)++vj (f2 a b)
noncomputable def F(m:String)(mt:Nat):Nat->Nat->Nat->Nat->List Obj->List Obj
 | 0,_,_,_,z=>z
 | n+1,a,k,c,z=>D m mt (f1 a) (vj (f1 a)) .none [] [] k c (F m mt n (a+1) (k+(MX (f1 a)).length+6) (c+7) z)
noncomputable def G(m:String)(mt a:Nat):Nat->Nat->Nat->Nat->List Obj->List Obj
 | 0,_,_,_,z=>z
 | n+1,b,k,c,z=>D m mt (f2 a b) (qn a b) .none [] [] k c (G m mt a n (b+1) (k+(MX (f2 a b)).length+6) (c+7) z)
noncomputable def kB(P:Params)(m:String)(mt a L:Nat)(z:List DictEntry)(n:Nat):Obj:=dc (d P "__module__" a (s m mt)::d P "__firstlineno__" (a+4) (i L (a+3))::z) n
noncomputable def kA(P:Params)(m:String)(mt a:Nat)(q:String)(L:Nat)(z:List DictEntry)(n:Nat):Obj:=dc (d P "__module__" a (s m mt)::d P "__qualname__" (a+2) (s q (a+1))::d P "__firstlineno__" (a+4) (i L (a+3))::z) n
section
local macro_rules |`($n:num)=>`(nat_lit $n)
noncomputable def VI(P:Params):List DictEntry:=.cons (d P "__name__" 165 (s "law_nz0059_01" 1876))<|.cons (d P "__doc__" 166 .none)<|.cons (d P "__package__" 167 .none)<|.cons (d P "__loader__" 168 (.builtin "__main__.__loader__#opaque"))<|.cons (d P "__spec__" 169 .none)<|dr P "__annotations__" 170 6<|dr P "__builtins__" 171 4<|.cons (d P "__file__" 173 (s "/claim/cut.py" 172))<|.cons (d P "__cached__" 174 .none)<|dr P "_wall" 193 21<|dr P "SIMPLE_ESCAPES" 229 22<|dr P "OPERATORS" 257 23<|.cons (d P "DEEPEST_KEY" 259 (i 12 258))<|dr P "Thing" 294 40<|dr P "Text" 322 62<|dr P "ListThing" 349 82<|dr P "TableThing" 401 120<|dr P "RangeThing" 432 140<|dr P "ProcThing" 475 161<|dr P "ErrorThing" 503 181<|dr P "FiberThing" 533 201<|dr P "ModuleThing" 580 228<|dr P "Entry" 633 256<|dr P "truth" 640 267<|dr P "sort_of" 647 274<|dr P "same" 656 281<|dr P "code_of" 662 287<|dr P "is_word" 670 382<|dr P "is_word_things" 671 294<|dr P "is_label" 678 301<|dr P "is_plain_symbol" 685 308<|dr P "full_name" 692 315<|dr P "show_letter" 702 322<|dr P "show_text" 708 327<|dr P "show_symbol" 715 334<|dr P "show_pair" 724 341<|dr P "show_range" 734 348<|dr P "show_thing" 740 353<|dr P "show_error" 751 360<|dr P "show" 761 368<|.cons (d P "LETTERS" 765 (s "abcdefghijklmnopqrstuvwxyz" 764))<|.cons (d P "DIGITS" 767 (s "0123456789" 766))<|dr P "name_in" 775 375<|dr P "is_word_coretools" 785 382<|dr P "constant_name" 793 389<|dr P "need_module" 801 396<|dr P "need_mixed" 809 403<|dr P "copy_into" 815 408<|dr P "copy_proc" 823 415<|dr P "copy_module" 833 422<|dr P "copy_of" 842 429<|dr P "make_class" 851 436<|dr P "make_module" 858 443<|dr P "has_thing" 869 450<|dr P "own_line" 878 457<|dr P "ahead_count" 884 462<|dr P "made_line" 890 467<|dr P "line_of" 898 474<|dr P "PRIVATE_NAMES" 903 475<|dr P "PRIVATE_KERNEL" 917 476<|dr P "GivenEntry" 933 486<|dr P "sight_of" 941 495<|dr P "given_entry" 958 502<|dr P "entry_at" 968 509<|dr P "first_entry" 979 516<|dr P "find" 988 523<|dr P "raise_version" 995 530<|dr P "need_unfrozen" 1003 537<|dr P "own_module" 1012 544<|dr P "define" 1021 551<|dr P "place_entry" 1031 558<|dr P "kind_word" 1038 565<|dr P "need_entry" 1048 572<|dr P "undefine" 1057 579<|dr P "remove" 1067 586<|dr P "copied" 1075 593<|dr P "alias" 1086 600<|dr P "set_sight" 1098 607<|dr P "need_mixin" 1108 614<|dr P "include" 1117 621<|dr P "prepend" 1126 628<|dr P "respond" 1137 635<|dr P "object_respond" 1148 642<|dr P "copy_own" 1157 649<|dr P "object_dup" 1167 656<|dr P "object_clone" 1177 663<|dr P "module_name" 1188 670<|dr P "module_line" 1197 677<|dr P "module_include" 1207 684<|dr P "module_prepend" 1217 691<|dr P "module_remove" 1227 698<|dr P "module_undef" 1237 705<|dr P "module_alias" 1247 712<|dr P "constant_from" 1258 719<|dr P "constant_path" 1270 726<|dr P "module_constant" 1279 733<|dr P "module_set_constant" 1288 740<|dr P "class_parent" 1297 747<|dr P "GemError" 1327 765<|dr P "Raised" 1352 785<|dr P "MODULES" 1358 788<|dr P "BUILTINS" 1475 789<|dr P "MIXED" 1497 792<|dr P "UNMADE" 1504 800<|dr P "World" 1867 1055<|dr P "is_around" 1875 1066<|dr P "_law_box" 1886 1073<|dr P "_law_take" 1895 1080<|dr P "_law_error" 1903 1087<|dr P "_law_row" 1911 1094<|dr P "_law_line" 1917 1099<|dr P "_law_found" 1927 1106<|dr P "_law_marked" 1934 1113<|dr P "_law_defined" 1947 1120<|dr P "_law_named" 1967 1127<|dr P "_law_mixed" 1981 1134<|dr P "_law_kept" 1995 1141<|dr P "_law_copied" 2008 1148<|dr P "_law_const" 2018 1155<|dr P "_law_alone" 2027 1162<|dr P "_law_both_right" 2033 1167<|dr P "law" 2051 1174<|[]
noncomputable def CO:List Va:=h 1 20<|h 8 29<|h 17 50<|h 22 70<|h 27 90<|h 47 128<|h 54 148<|h 67 169<|h 73 189<|h 81 209<|h 99 236<|h 116 266<|h 120 273<|h 128 280<|h 133 286<|h 144 293<|h 152 300<|h 154 307<|h 162 314<|h 170 321<|h 180 326<|h 183 333<|h 185 340<|h 189 347<|h 193 352<|h 214 359<|h 220 367<|h 234 374<|h 240 381<|h 248 388<|h 252 395<|h 255 402<|h 258 407<|h 275 414<|h 279 421<|h 288 428<|h 296 435<|h 306 442<|h 309 449<|h 314 456<|h 322 461<|h 324 466<|h 331 473<|h 337 482<|h 339 494<|h 343 501<|h 356 508<|h 363 515<|h 369 522<|h 371 529<|h 373 536<|h 376 543<|h 391 550<|h 395 557<|h 399 564<|h 401 571<|h 408 578<|h 411 585<|h 421 592<|h 423 599<|h 426 606<|h 431 613<|h 437 620<|h 443 627<|h 449 634<|h 453 641<|h 455 648<|h 459 655<|h 464 662<|h 471 669<|h 473 676<|h 475 683<|h 481 690<|h 487 697<|h 491 704<|h 495 711<|h 499 718<|h 504 725<|h 511 732<|h 513 739<|h 516 746<|h 519 753<|h 524 774<|h 534 806<|h 785 1065<|h 792 1072<|h 797 1079<|h 804 1086<|h 810 1093<|h 812 1098<|h 817 1105<|h 822 1112<|h 824 1119<|h 829 1126<|h 852 1133<|h 862 1140<|h 872 1147<|h 881 1154<|h 886 1161<|h 892 1166<|h 917 1173<|[]
noncomputable def Uy(k:Nat):Obj:=cl "Thing" [.type "object"] [r 40,.type "object"] 39 ([r 62,r 82,r 120,r 140,r 161,r 181,r 201,r 228].take k) [none,none,some (s "Thing" 260),some (s "Thing" 268),some (.builtin "object.__new__"),some (.bool true)]
noncomputable def OX(l:List Va):Obj:=cl "Entry" [.type "object"] [r 256,.type "object"] 255 l [none,none,some (s "Entry" 581),some (s "Entry" 589),some (.builtin "object.__new__"),some (.bool true)]
noncomputable def Vm(P:Params)(x3 x12:Obj)(z:List Obj):List Obj:=.cons (PySem.W.boot_o_0 P)<|.cons (PySem.W.boot_o_1 P)<|.cons (PySem.W.boot_o_2 P)<|.cons x3<|.cons (PySem.W.boot_o_4 P)<|.cons (PySem.W.boot_o_5 P)<|.cons (PySem.W.boot_o_6 P)<|.cons (PySem.W.boot_o_7 P)<|.cons (PySem.W.boot_o_8 P)<|.cons (PySem.W.boot_o_9 P)<|.cons (PySem.W.boot_o_10 P)<|.cons t0<|.cons x12<|.cons (cb "<module>" 182 1 11)<|.cons (fz 13 3 "__main__" 164)<|D "__main__" 164 (f1 0) (vj (f1 0)) .none [] [] 187 20<|.cons (dc [d P "\\" 196 (s "\\\\" 197),d P "\"" 198 (s "\\\"" 199),d P "\n" 200 (s "\\n" 201),d P "\t" 202 (s "\\t" 203),d P "\x0d" 204 (s "\\r" 205),d P "\x1b" 206 (s "\\e" 207),d P "\x07" 208 (s "\\a" 209),d P "\x08" 210 (s "\\b" 211),d P "\x0b" 212 (s "\\v" 213),d P "\x0c" 214 (s "\\f" 215),d P "\x7f" 216 (s "\\x7F" 217)] 11)<|.cons (tn 230 ["+","-","*","/","%","**","==","!=","<",">","<=",">=","<=>","===","[]","[]=","<<",">>","!","~","+@","-@","&","|","^","=~","!~"])<|.cons t0<|.cons fp<|.cons (kA P "gemrows.things" 194 267 "Thing" 8 [d P "__init__" 280 (r 37),d P "__static_attributes__" 287 (r 38)] 5)<|.cons t0<|.cons (fl (g 10 36<|[]))<|.cons (cb "Thing" 262 8 27)<|.cons (fz 29 26 "gemrows.things" 194)<|D "gemrows.things" 194 (f2 5 0) (qn 5 0) .none [] [] 272 36<|.cons (tn 281 ["fields","frozen","ident","number","own","owner"])<|.cons (kB P "gemrows.things" 194 267 8 [d P "__init__" 280 (r 37),d P "__static_attributes__" 287 (r 38),d P "__dict__" 289 (r 41),d P "__weakref__" 291 (r 42),d P "__doc__" 292 .none] 4)<|.cons (Uy 8)<|.cons (fd (.type "getset_descriptor") [s "__dict__" 288,r 40,.builtin "function.__dict__",.builtin "function.__dict__#set"])<|.cons (fd (.type "getset_descriptor") [s "__weakref__" 290,r 40,.builtin "ExceptionGroup.__weakref__",.none])<|.cons (fs 40)<|.cons (fa 40)<|.cons (t [r 40])<|.cons fp<|.cons (kA P "gemrows.things" 194 302 "Text" 17 [d P "__init__" 317 (r 59),d P "__static_attributes__" 319 (r 60)] 5)<|.cons t0<|.cons (fl (g 19 58<|[]))<|.cons (cb "Text" 297 17 48)<|.cons (fz 50 47 "gemrows.things" 194)<|.cons (t [s "" 307])<|D "gemrows.things" 194 (f2 6 0) (qn 6 0) (r 52) [] [] 308 58<|.cons (t [s "text" 318])<|.cons (kB P "gemrows.things" 194 302 17 [d P "__init__" 317 (r 59),d P "__static_attributes__" 319 (r 60),d P "__doc__" 320 .none] 2)<|.cons (cl "Text" [r 40] [r 62,r 40,.type "object"] 61 [] [some (r 45),none,some (s "Text" 295),some (s "Text" 303),some (.builtin "object.__new__"),some (.bool true)])<|.cons (fs 62)<|.cons (fa 62)<|.cons (t [r 40])<|.cons fp<|.cons (kA P "gemrows.things" 194 330 "ListThing" 22 [d P "__init__" 344 (r 79),d P "__static_attributes__" 346 (r 80)] 5)<|.cons t0<|.cons (fl (g 24 78<|[]))<|.cons (cb "ListThing" 325 22 68)<|.cons (fz 70 67 "gemrows.things" 194)<|.cons (t [.none])<|D "gemrows.things" 194 (f2 7 0) (qn 7 0) (r 72) [] [] 335 78<|.cons (t [s "items" 345])<|.cons (kB P "gemrows.things" 194 330 22 [d P "__init__" 344 (r 79),d P "__static_attributes__" 346 (r 80),d P "__doc__" 347 .none] 2)<|.cons (cl "ListThing" [r 40] [r 82,r 40,.type "object"] 81 [] [some (r 65),none,some (s "ListThing" 323),some (s "ListThing" 331),some (.builtin "object.__new__"),some (.bool true)])<|.cons (fs 82)<|z
noncomputable def Vn(P:Params)(x3 x12:Obj)(z:List Obj):List Obj:=.cons (fa 82)<|.cons (t [r 40])<|.cons fp<|.cons (kA P "gemrows.things" 194 357 "TableThing" 27 [d P "__init__" 370 (r 98),d P "put" 381 (r 105),d P "row" 389 (r 112),d P "pairs" 395 (r 117),d P "__static_attributes__" 398 (r 118)] 8)<|.cons t0<|.cons (fl (g 29 97<|g 34 104<|g 42 111<|g 45 116<|[]))<|.cons (cb "TableThing" 352 27 88)<|.cons (fz 90 87 "gemrows.things" 194)<|G "gemrows.things" 194 8 3 0 362 97<|E "gemrows.things" 194 (f2 8 3) (qn 8 3) .none 390 116<|.cons (tn 396 ["rows","spare"])<|.cons (kB P "gemrows.things" 194 357 27 [d P "__init__" 370 (r 98),d P "put" 381 (r 105),d P "row" 389 (r 112),d P "pairs" 395 (r 117),d P "__static_attributes__" 398 (r 118),d P "__doc__" 399 .none] 2)<|.cons (cl "TableThing" [r 40] [r 120,r 40,.type "object"] 119 [] [some (r 85),none,some (s "TableThing" 350),some (s "TableThing" 358),some (.builtin "object.__new__"),some (.bool true)])<|.cons (fs 120)<|.cons (fa 120)<|.cons (t [r 40])<|.cons fp<|.cons (kA P "gemrows.things" 194 409 "RangeThing" 47 [d P "__init__" 425 (r 137),d P "__static_attributes__" 429 (r 138)] 5)<|.cons t0<|.cons (fl (g 49 136<|[]))<|.cons (cb "RangeThing" 404 47 126)<|.cons (fz 128 125 "gemrows.things" 194)<|.cons (t [.none,.none,.bool false])<|D "gemrows.things" 194 (f2 9 0) (qn 9 0) (r 130) [] [] 414 136<|.cons (tn 426 ["first","last","open"])<|.cons (kB P "gemrows.things" 194 409 47 [d P "__init__" 425 (r 137),d P "__static_attributes__" 429 (r 138),d P "__doc__" 430 .none] 2)<|.cons (cl "RangeThing" [r 40] [r 140,r 40,.type "object"] 139 [] [some (r 123),none,some (s "RangeThing" 402),some (s "RangeThing" 410),some (.builtin "object.__new__"),some (.bool true)])<|.cons (fs 140)<|.cons (fa 140)<|.cons (t [r 40])<|.cons fp<|.cons (kA P "gemrows.things" 194 440 "ProcThing" 54 [d P "__init__" 462 (r 158),d P "__static_attributes__" 472 (r 159)] 5)<|.cons t0<|.cons (fl (g 56 157<|[]))<|.cons (cb "ProcThing" 435 54 146)<|.cons (fz 148 145 "gemrows.things" 194)<|.cons t0<|.cons (t [.none,.none,.none,.none,r 150,.none,.none,.bool false,.none])<|D "gemrows.things" 194 (f2 10 0) (qn 10 0) (r 151) [] [] 445 157<|.cons (tn 463 ["body","definer","env","home","is_lambda","nesting","params","self_value","site"])<|.cons (kB P "gemrows.things" 194 440 54 [d P "__init__" 462 (r 158),d P "__static_attributes__" 472 (r 159),d P "__doc__" 473 .none] 2)<|.cons (cl "ProcThing" [r 40] [r 161,r 40,.type "object"] 160 [] [some (r 143),none,some (s "ProcThing" 433),some (s "ProcThing" 441),some (.builtin "object.__new__"),some (.bool true)])<|.cons (fs 161)<|.cons (fa 161)<|.cons (t [r 40])<|.cons fp<|.cons (kA P "gemrows.things" 194 483 "ErrorThing" 67 [d P "__init__" 497 (r 178),d P "__static_attributes__" 500 (r 179)] 5)<|.cons t0<|.cons (fl (g 69 177<|[]))<|.cons (cb "ErrorThing" 478 67 167)<|.cons (fz 169 166 "gemrows.things" 194)<|.cons (t [.none])<|D "gemrows.things" 194 (f2 11 0) (qn 11 0) (r 171) [] [] 488 177<|.cons (tn 498 ["cause","message"])<|.cons (kB P "gemrows.things" 194 483 67 [d P "__init__" 497 (r 178),d P "__static_attributes__" 500 (r 179),d P "__doc__" 501 .none] 2)<|.cons (cl "ErrorThing" [r 40] [r 181,r 40,.type "object"] 180 [] [some (r 164),none,some (s "ErrorThing" 476),some (s "ErrorThing" 484),some (.builtin "object.__new__"),some (.bool true)])<|.cons (fs 181)<|.cons (fa 181)<|z
noncomputable def Vo(P:Params)(x3 x12:Obj)(z:List Obj):List Obj:=.cons (t [r 40])<|.cons fp<|.cons (kA P "gemrows.things" 194 511 "FiberThing" 73 [d P "__init__" 525 (r 198),d P "__static_attributes__" 530 (r 199)] 5)<|.cons t0<|.cons (fl (g 75 197<|[]))<|.cons (cb "FiberThing" 506 73 187)<|.cons (fz 189 186 "gemrows.things" 194)<|.cons (t [.none])<|D "gemrows.things" 194 (f2 12 0) (qn 12 0) (r 191) [] [] 516 197<|.cons (tn 526 ["back","proc","rows","state"])<|.cons (kB P "gemrows.things" 194 511 73 [d P "__init__" 525 (r 198),d P "__static_attributes__" 530 (r 199),d P "__doc__" 531 .none] 2)<|.cons (cl "FiberThing" [r 40] [r 201,r 40,.type "object"] 200 [] [some (r 184),none,some (s "FiberThing" 504),some (s "FiberThing" 512),some (.builtin "object.__new__"),some (.bool true)])<|.cons (fs 201)<|.cons (fa 201)<|.cons (t [r 40])<|.cons fp<|.cons (kA P "gemrows.things" 194 541 "ModuleThing" 81 [d P "__init__" 558 (r 218),d P "is_own" 565 (r 225),d P "__static_attributes__" 577 (r 226)] 6)<|.cons t0<|.cons (fl (g 83 217<|g 97 224<|[]))<|.cons (cb "ModuleThing" 536 81 207)<|.cons (fz 209 206 "gemrows.things" 194)<|.cons (t [.none,.bool false,.none,.none])<|D "gemrows.things" 194 (f2 13 0) (qn 13 0) (r 211) [] [] 546 217<|D "gemrows.things" 194 (f2 13 1) (qn 13 1) .none [] [] 559 224<|.cons (tn 566 ["ahead","attached","constants","is_class","kept","methods","mixed","name","native","outer","parent"])<|.cons (kB P "gemrows.things" 194 541 81 [d P "__init__" 558 (r 218),d P "is_own" 565 (r 225),d P "__static_attributes__" 577 (r 226),d P "__doc__" 578 .none] 2)<|.cons (cl "ModuleThing" [r 40] [r 228,r 40,.type "object"] 227 [] [some (r 204),none,some (s "ModuleThing" 534),some (s "ModuleThing" 542),some (.builtin "object.__new__"),some (.bool true)])<|.cons (fs 228)<|.cons (fa 228)<|.cons t0<|.cons fp<|.cons (kA P "gemrows.things" 194 588 "Entry" 99 [d P "__init__" 606 (r 245),d P "moved" 617 (r 253),d P "__static_attributes__" 626 (r 254)] 6)<|.cons t0<|.cons (fl (g 101 244<|g 111 252<|[]))<|.cons (cb "Entry" 583 99 234)<|.cons (fz 236 233 "gemrows.things" 194)<|.cons (t [.none,.none,s "public" 593])<|D "gemrows.things" 194 (f2 14 0) (qn 14 0) (r 238) [] [] 594 244<|.cons (t [.none])<|D "gemrows.things" 194 (f2 14 1) (qn 14 1) (r 246) [] [] 607 252<|.cons (tn 618 ["body","code","name","nesting","owner","params","sight","sort"])<|.cons (kB P "gemrows.things" 194 588 99 [d P "__init__" 606 (r 245),d P "moved" 617 (r 253),d P "__static_attributes__" 626 (r 254),d P "__dict__" 628 (r 257),d P "__weakref__" 630 (r 258),d P "__doc__" 631 .none] 4)<|.cons (OX [r 486])<|.cons (fd (.type "getset_descriptor") [s "__dict__" 627,r 256,.builtin "function.__dict__",.builtin "function.__dict__#set"])<|.cons (fd (.type "getset_descriptor") [s "__weakref__" 629,r 256,.builtin "ExceptionGroup.__weakref__",.none])<|.cons (fs 256)<|.cons (fa 256)<|F "gemrows.things" 194 3 15 634 266<|.cons (t [i 12 258])<|E "gemrows.things" 194 (f1 18) (vj (f1 18)) (r 282) 657 286<|D "gemrows.things" 194 (f1 19) (vj (f1 19)) .none [] [] 663 293<|F "gemrows.things" 194 4 21 672 300<|E "gemrows.things" 194 (f1 25) (vj (f1 25)) .none 703 326<|F "gemrows.things" 194 2 26 709 333<|z
noncomputable def Vp(P:Params)(x3 x12:Obj)(z:List Obj):List Obj:=D "gemrows.things" 194 (f1 28) (vj (f1 28)) .none [] [] 725 347<|E "gemrows.things" 194 (f1 29) (vj (f1 29)) .none 735 352<|D "gemrows.things" 194 (f1 30) (vj (f1 30)) .none [] [] 741 359<|.cons (t [i 6 752])<|D "gemrows.things" 194 (f1 31) (vj (f1 31)) (r 361) [] [] 753 367<|F "gemrows.coretools" 762 2 35 768 374<|F "gemrows.coretools" 762 3 38 786 388<|E "gemrows.coretools" 762 (f1 41) (vj (f1 41)) .none 810 407<|F "gemrows.coretools" 762 5 42 816 414<|F "gemrows.lines" 859 2 48 861 449<|E "gemrows.lines" 859 (f1 50) (vj (f1 50)) .none 879 461<|E "gemrows.lines" 859 (f1 51) (vj (f1 51)) .none 885 466<|D "gemrows.lines" 859 (f1 52) (vj (f1 52)) .none [] [] 891 473<|.cons (tn 899 ["initialize","initialize_copy","method_missing","respond_to_missing?"])<|.cons (tn 904 ["puts","print","p","raise","loop","catch","throw","proc","lambda","block_given?","Array","Integer","__write"])<|.cons (t [r 256])<|.cons fp<|.cons (kA P "gemrows.lines" 859 925 "GivenEntry" 337 [d P "__static_attributes__" 930 (r 484)] 4)<|.cons t0<|.cons Um<|.cons (cb "GivenEntry" 920 337 480)<|.cons (fz 482 479 "gemrows.lines" 859)<|.cons t0<|.cons (kB P "gemrows.lines" 859 925 337 [d P "__static_attributes__" 930 (r 484),d P "__doc__" 931 .none] 2)<|.cons (cl "GivenEntry" [r 256] [r 486,r 256,.type "object"] 485 [] [some (r 477),none,some (s "GivenEntry" 918),some (s "GivenEntry" 926),some (.builtin "object.__new__"),some (.bool true)])<|.cons (fs 486)<|.cons (fa 486)<|F "gemrows.lines" 859 21 56 934 494<|F "gemrows.core" 1138 4 78 1140 641<|z
noncomputable def Vq(P:Params)(x3 x12:Obj)(z:List Obj):List Obj:=F "gemrows.coremodules" 1178 12 83 1180 669<|.cons (t [.type "ValueError"])<|.cons fp<|.cons (kA P "gemrows.errors" 1298 1307 "GemError" 519 [d P "__init__" 1320 (r 762),d P "__static_attributes__" 1322 (r 763)] 5)<|.cons t0<|.cons (fl (g 521 761<|[]))<|.cons (cb "GemError" 1302 519 751)<|.cons (fz 753 750 "gemrows.errors" 1298)<|.cons (t [s "" 1312])<|D "gemrows.errors" 1298 (f2 96 0) (qn 96 0) (r 755) [] [] 1313 761<|.cons (t [s "reason" 1321])<|.cons (kB P "gemrows.errors" 1298 1307 519 [d P "__init__" 1320 (r 762),d P "__static_attributes__" 1322 (r 763),d P "__weakref__" 1324 (r 766),d P "__doc__" 1325 .none] 3)<|.cons (cl "GemError" [.type "ValueError"] [r 765,.type "ValueError",.type "Exception",.type "BaseException",.type "object"] 764 [r 785] [some (r 748),none,some (s "GemError" 1300),some (s "GemError" 1308),some (.builtin "ValueError.__new__"),some (.bool true)])<|.cons (fd (.type "getset_descriptor") [s "__weakref__" 1323,r 765,.builtin "ExceptionGroup.__weakref__",.none])<|.cons (fs 765)<|.cons (fa 765)<|.cons (t [r 765])<|.cons fp<|.cons (kA P "gemrows.errors" 1298 1335 "Raised" 524 [d P "__init__" 1347 (r 782),d P "__static_attributes__" 1349 (r 783)] 5)<|.cons t0<|.cons (fl (g 526 781<|[]))<|.cons (cb "Raised" 1330 524 772)<|.cons (fz 774 771 "gemrows.errors" 1298)<|D "gemrows.errors" 1298 (f2 97 0) (qn 97 0) .none [] [] 1340 781<|.cons (t [s "thing" 1348])<|.cons (kB P "gemrows.errors" 1298 1335 524 [d P "__init__" 1347 (r 782),d P "__static_attributes__" 1349 (r 783),d P "__doc__" 1350 .none] 2)<|.cons (cl "Raised" [r 765] [r 785,r 765,.type "ValueError",.type "Exception",.type "BaseException",.type "object"] 784 [] [some (r 769),none,some (s "Raised" 1328),some (s "Raised" 1336),some (.builtin "ValueError.__new__"),some (.bool true)])<|.cons (fs 785)<|.cons (fa 785)<|.cons (tn 1355 ["Kernel","Comparable","Enumerable"])<|.cons (dc [d P "BasicObject" 1359 .none,d P "Object" 1361 (s "BasicObject" 1362),d P "Module" 1364 (s "Object" 1365),d P "Class" 1367 (s "Module" 1368),d P "Kernel" 1370 .none,d P "Comparable" 1372 .none,d P "Enumerable" 1374 .none,d P "NilClass" 1376 (s "Object" 1377),d P "TrueClass" 1379 (s "Object" 1380),d P "FalseClass" 1382 (s "Object" 1383),d P "Numeric" 1385 (s "Object" 1386),d P "Integer" 1388 (s "Numeric" 1389),d P "String" 1391 (s "Object" 1392),d P "Symbol" 1394 (s "Object" 1395),d P "Array" 1397 (s "Object" 1398),d P "Hash" 1400 (s "Object" 1401),d P "Range" 1403 (s "Object" 1404),d P "Proc" 1406 (s "Object" 1407),d P "Fiber" 1409 (s "Object" 1410),d P "Exception" 1412 (s "Object" 1413),d P "ScriptError" 1415 (s "Exception" 1416),d P "NotImplementedError" 1418 (s "ScriptError" 1419),d P "SystemStackError" 1421 (s "Exception" 1422),d P "StandardError" 1424 (s "Exception" 1425),d P "ArgumentError" 1427 (s "StandardError" 1428),d P "UncaughtThrowError" 1430 (s "ArgumentError" 1431),d P "FiberError" 1433 (s "StandardError" 1434),d P "IndexError" 1436 (s "StandardError" 1437),d P "KeyError" 1439 (s "IndexError" 1440),d P "StopIteration" 1442 (s "IndexError" 1443),d P "LocalJumpError" 1445 (s "StandardError" 1446),d P "NameError" 1448 (s "StandardError" 1449),d P "NoMethodError" 1451 (s "NameError" 1452),d P "NoMatchingPatternError" 1454 (s "StandardError" 1455),d P "NoMatchingPatternKeyError" 1457 (s "NoMatchingPatternError" 1458),d P "RangeError" 1459 (s "StandardError" 1460),d P "RuntimeError" 1461 (s "StandardError" 1462),d P "FrozenError" 1463 (s "RuntimeError" 1464),d P "TypeError" 1465 (s "StandardError" 1466),d P "ZeroDivisionError" 1467 (s "StandardError" 1468)] 40)<|.cons (dc [d P "Proc" 1406 (s "Object" 1407),d P "Fiber" 1409 (s "Object" 1410),d P "Exception" 1412 (s "Object" 1413),d P "ScriptError" 1415 (s "Exception" 1416),d P "NotImplementedError" 1418 (s "ScriptError" 1419),d P "SystemStackError" 1421 (s "Exception" 1422),d P "StandardError" 1424 (s "Exception" 1425),d P "ArgumentError" 1427 (s "StandardError" 1428),d P "UncaughtThrowError" 1430 (s "ArgumentError" 1431),d P "FiberError" 1433 (s "StandardError" 1434),d P "IndexError" 1436 (s "StandardError" 1437),d P "KeyError" 1439 (s "IndexError" 1440),d P "StopIteration" 1442 (s "IndexError" 1443),d P "LocalJumpError" 1445 (s "StandardError" 1446),d P "NameError" 1448 (s "StandardError" 1449),d P "NoMethodError" 1451 (s "NameError" 1452),d P "NoMatchingPatternError" 1454 (s "StandardError" 1455)] 17)<|.cons (dc [d P "NoMatchingPatternKeyError" 1457 (s "NoMatchingPatternError" 1458),d P "RangeError" 1459 (s "StandardError" 1460),d P "RuntimeError" 1461 (s "StandardError" 1462),d P "FrozenError" 1463 (s "RuntimeError" 1464),d P "TypeError" 1465 (s "StandardError" 1466),d P "ZeroDivisionError" 1467 (s "StandardError" 1468)] 6)<|.cons (dc [d P "Object" 1476 (r 793),d P "Numeric" 1478 (r 794),d P "String" 1480 (r 795),d P "Symbol" 1482 (r 796),d P "Array" 1484 (r 797),d P "Hash" 1486 (r 798),d P "Range" 1488 (r 799)] 7)<|.cons (t [s "Kernel" 1477])<|.cons (t [s "Comparable" 1479])<|.cons (t [s "Comparable" 1481])<|.cons (t [s "Comparable" 1483])<|.cons (t [s "Enumerable" 1485])<|.cons (t [s "Enumerable" 1487])<|.cons (t [s "Enumerable" 1489])<|.cons (tn 1498 ["NilClass","TrueClass","FalseClass","Integer","Numeric","Symbol"])<|.cons t0<|.cons fp<|.cons (kA P "gemrows.world" 1353 1512 "World" 534 [d P "__init__" 1529 (r 815),d P "tick" 1536 (r 822),d P "write" 1544 (r 829),d P "number" 1551 (r 836),d P "next_ident" 1558 (r 843),d P "ident" 1567 (r 850),d P "builtin" 1576 (r 857),d P "make_builtin" 1582 (r 862),d P "give_own" 1590 (r 869),d P "new_module" 1605 (r 877),d P "class_of" 1613 (r 884),d P "own_of" 1621 (r 891),d P "own_behind" 1630 (r 898),d P "root_of" 1638 (r 905),d P "real_class" 1646 (r 912),d P "text" 1654 (r 919),d P "list_of" 1662 (r 926),d P "table_of" 1670 (r 933),d P "key_of" 1678 (r 940),d P "range_of" 1688 (r 947),d P "proc" 1705 (r 954),d P "thing" 1715 (r 961),d P "is_error_class" 1723 (r 968),d P "spread" 1731 (r 975),d P "error" 1740 (r 982),d P "fail" 1749 (r 989),d P "need_thawed" 1758 (r 996),d P "set_field" 1768 (r 1003),d P "describe" 1776 (r 1010),d P "own_constant" 1785 (r 1017),d P "find_constant" 1798 (r 1024),d P "constant" 1809 (r 1031),d P "find_in" 1821 (r 1038),d P "constant_in" 1833 (r 1045),d P "set_constant" 1844 (r 1052),d P "__static_attributes__" 1860 (r 1053)] 39)<|.cons t0<|.cons (fl (g 536 814<|g 556 821<|g 559 828<|g 562 835<|g 566 842<|g 570 849<|g 586 856<|g 590 861<|g 603 868<|g 607 876<|g 616 883<|g 625 890<|g 632 897<|g 640 904<|g 645 911<|g 650 918<|g 653 925<|g 656 932<|g 659 939<|g 662 946<|g 665 953<|g 669 960<|g 695 967<|g 702 974<|g 705 981<|g 708 988<|g 711 995<|g 716 1002<|g 719 1009<|g 730 1016<|g 737 1023<|g 750 1030<|g 756 1037<|g 766 1044<|g 775 1051<|[]))<|.cons (cb "World" 1507 534 804)<|.cons (fz 806 803 "gemrows.world" 1353)<|z
noncomputable def Vr(P:Params)(x3 x12:Obj)(z:List Obj):List Obj:=.cons (t [.none,.none,i 20000 1517])<|D "gemrows.world" 1353 (f2 103 0) (qn 103 0) (r 808) [] [] 1518 814<|G "gemrows.world" 1353 103 6 1 1530 821<|E "gemrows.world" 1353 (f2 103 7) (qn 103 7) .none 1577 861<|D "gemrows.world" 1353 (f2 103 8) (qn 103 8) .none [] [] 1583 868<|.cons (t [.none,.none,.none])<|D "gemrows.world" 1353 (f2 103 9) (qn 103 9) (r 870) [] [] 1591 876<|G "gemrows.world" 1353 103 25 10 1606 883<|.cons (tn 1845 ["const_version","globals","is_ready","last_ident","last_number","made","main","most","natives","out","prelude","read","symbol_idents","taken","version"])<|.cons (kB P "gemrows.world" 1353 1512 534 [d P "__init__" 1529 (r 815),d P "tick" 1536 (r 822),d P "write" 1544 (r 829),d P "number" 1551 (r 836),d P "next_ident" 1558 (r 843),d P "ident" 1567 (r 850),d P "builtin" 1576 (r 857),d P "make_builtin" 1582 (r 862),d P "give_own" 1590 (r 869),d P "new_module" 1605 (r 877),d P "class_of" 1613 (r 884),d P "own_of" 1621 (r 891),d P "own_behind" 1630 (r 898),d P "root_of" 1638 (r 905),d P "real_class" 1646 (r 912),d P "text" 1654 (r 919),d P "list_of" 1662 (r 926),d P "table_of" 1670 (r 933),d P "key_of" 1678 (r 940),d P "range_of" 1688 (r 947),d P "proc" 1705 (r 954),d P "thing" 1715 (r 961),d P "is_error_class" 1723 (r 968),d P "spread" 1731 (r 975),d P "error" 1740 (r 982),d P "fail" 1749 (r 989),d P "need_thawed" 1758 (r 996),d P "set_field" 1768 (r 1003),d P "describe" 1776 (r 1010),d P "own_constant" 1785 (r 1017),d P "find_constant" 1798 (r 1024),d P "constant" 1809 (r 1031),d P "find_in" 1821 (r 1038),d P "constant_in" 1833 (r 1045),d P "set_constant" 1844 (r 1052),d P "__static_attributes__" 1860 (r 1053),d P "__dict__" 1862 (r 1056),d P "__weakref__" 1864 (r 1057),d P "__doc__" 1865 .none] 4)<|.cons (cl "World" [.type "object"] [r 1055,.type "object"] 1054 [] [none,none,some (s "World" 1505),some (s "World" 1513),some (.builtin "object.__new__"),some (.bool true)])<|.cons (fd (.type "getset_descriptor") [s "__dict__" 1861,r 1055,.builtin "function.__dict__",.builtin "function.__dict__#set"])<|.cons (fd (.type "getset_descriptor") [s "__weakref__" 1863,r 1055,.builtin "ExceptionGroup.__weakref__",.none])<|.cons (fs 1055)<|.cons (fa 1055)<|D "gemrows.world" 1353 (f1 104) (vj (f1 104)) .none [] [] 1868 1065<|F "law_nz0059_01" 1876 4 106 1878 1072<|E "law_nz0059_01" 1876 (f1 110) (vj (f1 110)) .none 1912 1098<|F "law_nz0059_01" 1876 3 111 1918 1105<|.cons t0<|.cons Um<|.cons (tn 1951 ["box","world","rows","name","turn","way","known","table","acts","lacks"])<|.cons (tn 1961 ["world","more","term","thing"])<|.cons (ft (f1 114) "_law_named")<|.cons (co [s "_law_named" 1948,s "_law_named" 1949,s "/claim/cut.py" 1950,i 829 0,i 5 0,i 0 0,i 0 0,i 3 0,r 1121,.bool true,i 181 0,r 1122,.none,r 1123,r 1124,r 1125,i 1965 0,i 829 0,s "/claim/cut.py" 1966])<|.cons (fn (f1 114) "_law_named" .none "law_nz0059_01" 1876 1126)<|z
noncomputable def Vs(P:Params)(x3 x12:Obj)(z:List Obj):List Obj:=F "law_nz0059_01" 1876 5 115 1968 1133<|E "law_nz0059_01" 1876 (f1 120) (vj (f1 120)) .none 2028 1166<|D "law_nz0059_01" 1876 (f1 121) (vj (f1 121)) .none [] [] 2034 1173<|z
end
noncomputable def obs(P:Params)(x3 x12:Obj):List Obj:=Vm P x3 x12 (Vn P x3 x12 (Vo P x3 x12 (Vp P x3 x12 (Vq P x3 x12 (Vr P x3 x12 (Vs P x3 x12 []))))))
noncomputable def UE:List Obj->List Obj × List Obj
 | []=>([],[])
 | x::r=>let p:=UE r;(x::p.2,p.1)
noncomputable def bt:Nat->List Obj->BT
 | 0,_=>.nil
 | f+1,l=>match l with
  | []=>.nil
  | x::r=>let p:=UE r;.node x (bt f p.1) (bt f p.2)
noncomputable def qS(P:Params)(k:Nat)(m:String)(mt:Nat):Obj:=dc (d P "__name__" 165 (s m mt)::((VI P).drop 1).take k) (k+1)
noncomputable def Pp(P:Params):BT:=bt 12 ((obs P (boot_o_3 P) (fl [])).take 15)
noncomputable def st1(P:Params):BT:=bt 12 ((obs P (qS P 12 "gemrows.things" 194) (fl (CO.take 3))).take 24)
noncomputable def UG(P:Params):BT:=bt 12 (((obs P (qS P 17 "gemrows.things" 194) (fl (CO.take 18))).take 143).set 40 (Uy 4))
noncomputable def UH(P:Params):BT:=bt 12 (((obs P (qS P 22 "gemrows.things" 194) (fl (CO.take 33))).take 261).set 256 (OX []))
noncomputable def UI(P:Params):BT:=bt 12 (((obs P (qS P 59 "gemrows.lines" 859) (fl (CO.take 129))).take 477).set 256 (OX []))
noncomputable def st2(P:Params):BT:=bt 12 ((obs P (qS P 100 "gemrows.world" 1353) (fl (CO.take 249))).take 789)
noncomputable def st3(P:Params):BT:=bt 12 ((obs P (qS P 103 "gemrows.world" 1353) (fl (CO.take 249))).take 801)
noncomputable def Bw(P:Params):BT:=bt 12 (obs P (qS P 121 "law_nz0059_01" 1876) (fl CO))
noncomputable def sr:Env:={ scope:=pw.main.scope,locals:=mainNs,globals:=mainNs,cells:=[],code:=.ref 13,frame:=some 14 }
noncomputable abbrev tf:List Frame:=[topFrame ⟨0,0,0,0⟩]
noncomputable abbrev sh(T:BT)(n k:Nat)(os:OsState):SharedT:=⟨T,n,{},#[],{},k,os⟩
noncomputable abbrev Fj:String:="special-get-raises"
abbrev Seg(w:World)(p:Program)(b:List Stmt)(os:OsState)(N:Nat)(T T':Params->BT)(n k n' k':Nat)(l:List Stmt)(q q':Pos):Prop:=segRunT treeTable p w 11 (some (.ref 6)) 1 N (sh (T w.params) n k os) (piecesOf l sr (.body b sr) q tf)=some (.next,sh (T' w.params) n' k' os,.body b sr,q')
noncomputable abbrev A1:List Stmt:=pw.main.body.take 5
noncomputable abbrev A2:List Stmt:=(pw.main.body.drop 5).take 95
noncomputable abbrev A3:List Stmt:=(pw.main.body.drop 100).take 3
noncomputable abbrev A4:List Stmt:=pw.main.body.drop 103
theorem RO(w:World):∀ p b os,Seg (w.withFollow Fj false) p b os 260 Pp st1 15 187 24 260 A1 ⟨0,0,0,0⟩ ⟨7,0,7,11⟩:=by intro p b os;unfold Seg;rw[iy,iw];kernel_rfl
theorem RP(w:World):∀ p b os,Seg (w.withFollow Fj true) p b os 260 Pp st1 15 187 24 260 A1 ⟨0,0,0,0⟩ ⟨7,0,7,11⟩:=by intro p b os;unfold Seg;rw[iy,iw];kernel_rfl
theorem RQ(w:World):∀ p b os,Seg w p b os 1320 st1 UG 24 260 143 433 (A2.take 5) ⟨7,0,7,11⟩ ⟨47,0,53,27⟩:=by intro p b os;unfold Seg;rw[iy,iw];kernel_rfl
theorem RS(w:World):∀ p b os,Seg w p b os 1331 UG UH 143 433 261 634 ((A2.drop 5).take 5) ⟨47,0,53,27⟩ ⟨99,0,115,20⟩:=by intro p b os;unfold Seg;rw[iy,iw];kernel_rfl
theorem RT(w:World):∀ p b os,Seg w p b os 1045 UH UI 261 634 477 918 ((A2.drop 10).take 40) ⟨99,0,115,20⟩ ⟨336,0,336,14⟩:=by intro p b os;unfold Seg;rw[iy,iw];kernel_rfl
theorem RU(w:World):∀ p b os,Seg w p b os 1902 UI st2 477 918 789 1359 (A2.drop 50) ⟨336,0,336,14⟩ ⟨530,0,530,7⟩:=by intro p b os;unfold Seg;rw[iy,iw];kernel_rfl
theorem RV(w:World):∀ p b os,Seg (w.withFollow Fj false) p b os 904 st2 st3 789 1359 801 1505 A3 ⟨530,0,530,7⟩ ⟨533,0,533,6⟩:=by intro p b os;unfold Seg;rw[iy,iw];kernel_rfl
theorem RW(w:World):∀ p b os,Seg (w.withFollow Fj true) p b os 904 st2 st3 789 1359 801 1505 A3 ⟨530,0,530,7⟩ ⟨533,0,533,6⟩:=by intro p b os;unfold Seg;rw[iy,iw];kernel_rfl
theorem TV(w:World):∀ p b os,Seg w p b os 1934 st3 Bw 801 1505 1175 2052 A4 ⟨533,0,533,6⟩ ⟨917,0,932,15⟩:=by intro p b os;unfold Seg;rw[iy,iw];kernel_rfl
end HA
end
section
open HA
noncomputable def H1(P:Params):Heap:=absHeap (Bw P) 1175 {}
theorem LO(w:World)(os:OsState):topGo treeTable pw w 11 (some (.ref 6)) 12 ⟨boot_heap w.params,#[],boot_drawn,boot_toks,os⟩ (topStub pw)=some ((sh (Pp w.params) 15 187 os).abs,⟨denote treeTable (.body pw.main.body sr),.body pw.main.body sr,⟨0,0,0,0⟩,[topFrame ⟨0,0,0,0⟩]⟩):=by kernel_rfl
theorem LN(w:World)(os:OsState):topRun treeTable pw w 11 (some (.ref 6)) 2 (sh (Bw w.params) 1175 2052 os).abs (restOf [] sr (.body pw.main.body sr) ⟨917,0,932,15⟩ [topFrame ⟨0,0,0,0⟩])=some ⟨H1 w.params,#[],{},2052,os⟩:=by kernel_rfl
theorem Fo(w:World)(os:OsState):segRun treeTable pw w 11 (some (.ref 6)) 1 1 (sh (Pp w.params) 15 187 os).abs (blockOf pw.main.body sr (.body pw.main.body sr) ⟨0,0,0,0⟩ [topFrame ⟨0,0,0,0⟩])=some (.next,(sh (Pp w.params) 15 187 os).abs,.body pw.main.body sr,⟨0,0,0,0⟩):=by kernel_rfl
theorem Hl{α:Type}(l:List α):l.take 5++(((l.drop 5).take 95).take 5++((((l.drop 5).take 95).drop 5).take 5++((((l.drop 5).take 95).drop 10).take 40++(((l.drop 5).take 95).drop 50++((l.drop 100).take 3++(l.drop 103++[]))))))=l:=by
 have cut:∀(m:List α) (r:List α),m.take 5++((m.drop 5).take 5++((m.drop 10).take 40++(m.drop 50++r)))=m++r:=λm r=>by have a:=List.take_append_drop 5 (m.drop 5);have b:=List.take_append_drop 40 (m.drop 10);rw[List.drop_drop] at a b;rw[<-i0 ((m.drop 10).take 40),b,<-i0 ((m.drop 5).take 5),a,<-i0,List.take_append_drop]
 rw[cut];have h2:=List.take_append_drop 95 (l.drop 5);have h3:=List.take_append_drop 3 (l.drop 100);rw[List.drop_drop] at h2 h3;rw[jk,h3,h2,List.take_append_drop]
theorem Jh(w:World)(os:OsState):topRun treeTable pw w 11 (some (.ref 6)) (260+(1320+(1331+(1045+(1902+(904+(1934+2))))))) (sh (Pp w.params) 15 187 os).abs (restOf pw.main.body sr (.body pw.main.body sr) ⟨0,0,0,0⟩ [topFrame ⟨0,0,0,0⟩])=some ⟨H1 w.params,#[],{},2052,os⟩:=by have s1:=byRow2 Fj (P:=λw=>∀ p b os,Seg w p b os 260 Pp st1 15 187 24 260 A1 ⟨0,0,0,0⟩ ⟨7,0,7,11⟩) RO RP w pw pw.main.body os;have s3:=byRow2 Fj (P:=λw=>∀ p b os,Seg w p b os 904 st2 st3 789 1359 801 1505 A3 ⟨530,0,530,7⟩ ⟨533,0,533,6⟩) RV RW w pw pw.main.body os;have k:=piece_app (rest:=A2.take 5++((A2.drop 5).take 5++((A2.drop 10).take 40++(A2.drop 50++(A3++(A4++[])))))) (segRun_of s1) (piece_app (rest:=(A2.drop 5).take 5++((A2.drop 10).take 40++(A2.drop 50++(A3++(A4++[]))))) (segRun_of (RQ w pw pw.main.body os)) (piece_app (rest:=(A2.drop 10).take 40++(A2.drop 50++(A3++(A4++[])))) (segRun_of (RS w pw pw.main.body os)) (piece_app (rest:=A2.drop 50++(A3++(A4++[]))) (segRun_of (RT w pw pw.main.body os)) (piece_app (rest:=A3++(A4++[])) (segRun_of (RU w pw pw.main.body os)) (piece_app (rest:=A4++[]) (segRun_of s3) (piece_app (rest:=[]) (segRun_of (TV w pw pw.main.body os)) (LN w os)))))));rw[Hl] at k;exact k
theorem LM:∃ M,Nat.ble M 9000=true/\∀(w:World) (os:OsState),topRun treeTable pw w 11 (some (.ref 6)) M ⟨boot_heap w.params,#[],boot_drawn,boot_toks,os⟩ (topStub pw)=some ⟨H1 w.params,#[],{},2052,os⟩:=⟨_,by rfl,λw os=>go_top (LO w os) (piece_block (Fo w os) (Jh w os))⟩
theorem opens(w:World):(fencedOpening treeTable pw w 9000).map (λs=>(s.heap,s.gens,s.drawn,s.toks))=some (boot_heap w.params,#[],boot_drawn,boot_toks):=boot_open (by kernel_rfl) (by rfl) (λ_=>by kernel_rfl) w
theorem sizes(w:World):((boot_heap w.params).isNs mainGlobals&&(#[]:Array GenState).size==0,(boot_heap w.params).objs.size,(boot_heap w.params).nsMap mainGlobals "__annotations__")=(true,11,some (.ref 6)):=by kernel_rfl
theorem Q4(w:World)(os:OsState):(staticsOk (importedModules pw.main.body) (boot_heap w.params) (H1 w.params)&&namesBound pw (H1 w.params)&&gensDone ⟨H1 w.params,#[],{},2052,os⟩&&laidKept (boot_heap w.params) (H1 w.params))=true:=by kernel_rfl
theorem Q5(w:World)(os:OsState):openSeen qv jS (importedModules pw.main.body) (λs=>xlAt qv [] s&&recOk [] s) true ⟨H1 w.params,#[],{},2052,os⟩=openGood qv jS:=by kernel_rfl
theorem left:LeftO pw qv jS (λs=>xlAt qv [] s&&recOk [] s) (λs=>s.heap) (λw=>H1 w.params) 9000:=by obtain⟨M,le,run⟩:=LM;exact LeftO.of_pieces opens sizes run le (λw=>funext λos=>by rw[Q4 w os,Q5 w os])
end
theorem cK{α:Type}{c:Prop}[Decidable c]{a p:α}{y:Op α}{G:Prop}(h:(if c then some a else y)=some p)(f:c->a=p->G)(g:y=some p->G):G:=by
 by_cases q:c
 ·rw[ai q] at h;exact f q (kr h)
 ·rw[aa q] at h;exact g h
theorem bB{α:Type}{P:Prop}{x:α}(h:(none:Op α)=some x):P:=by cases h
theorem Hp{α:Type}{P:Prop}{x:α}(h:some x=(none:Op α)):P:=by cases h
theorem gP{P:Prop}(h:false=true):P:=by cases h
theorem lz{P:Prop}(h:true=false):P:=by cases h
local macro_rules
 | `(tactic| cases $h:term)=>`(tactic| first|exact bB $h|exact Hp $h|exact gP $h|exact lz $h|induction $h:term using PySem.Expr.casesOn|induction $h:term|rcases $h:term with⟨⟩)
section
set_option backward.match.sparseCases false
noncomputable abbrev HF:=Ad->Op (Obj->Prop)
noncomputable def ab:Va->Va
 | .int i _=>.int i 0
 | .str s _=>.str s 0
 | v=>v
theorem Qe(v:Va):(ab v).ctorIdx=v.ctorIdx:=by cases v<;>rfl
theorem BD{v w:Va}(h:ab v=w):v.ctorIdx=w.ctorIdx:=(Qe v).symm.trans (aj Value.ctorIdx h)
theorem tT{v:Va}{a:Ad}(h:ab v=.ref a):v=.ref a:=Value.ref.elim (motive:=λv=>ab v=.ref a->v=.ref a) v (BD h) (λ_ h=>h) h
theorem CU{v:Va}(h:ab v=.none):v=.none:=Value.none.elim (motive:=λv=>ab v=.none->v=.none) v (BD h) (λh=>h) h
theorem J1{v:Va}{b:Bool}(h:ab v=.bool b):v=.bool b:=Value.bool.elim (motive:=λv=>ab v=.bool b->v=.bool b) v (BD h) (λ_ h=>h) h
theorem SH{v:Va}{i:Int}{t:Tok}(h:ab v=.int i t):∃ t,v=.int i t:=Value.int.elim (motive:=λv=>ab v=.int i t->∃ t,v=.int i t) v (BD h) (λ_ u h=>⟨u,aj (λx=>Value.int x u) (Value.int.inj h).1⟩) h
theorem SI{v:Va}{x:Str}{t:Tok}(h:ab v=.str x t):∃ t,v=.str x t:=Value.str.elim (motive:=λv=>ab v=.str x t->∃ t,v=.str x t) v (BD h) (λ_ u h=>⟨u,aj (λx=>Value.str x u) (Value.str.inj h).1⟩) h
theorem Ny{v:Va}{x:String}(h:ab v=.builtin x):v=.builtin x:=Value.builtin.elim (motive:=λv=>ab v=.builtin x->v=.builtin x) v (BD h) (λ_ h=>h) h
theorem wu{α:Type}{c:Prop}[Decidable c]{x:Op α}{p:α}(h:(if c then x else none)=some p):c/\x=some p:=by
 by_cases q:c
 ·rw[ai q] at h;exact⟨q,h⟩
 ·rw[aa q] at h;exact bB h
theorem eX{c:Prop}[Decidable c]{α:Type}{a:c->α}{q:α}{G:Prop}(h:(if h:c then some (a h) else none)=some q)(k:∀ hc,a hc=q->G):G:=by
 by_cases hc:c
 ·rw[dif_pos hc] at h;exact k hc (kr h)
 ·rw[dif_neg hc] at h;exact bB h
theorem aN{α β:Type}{x:Op α}{f:α->Op β}{b:β}{G:Prop}(h:x.bind f=some b)(k:∀ a,x=some a->f a=some b->G):G:=(dg h).elim λa h=>k a h.1 h.2
theorem dJ{α β:Type}{x:Op α}{f:α->β}{b:β}{G:Prop}(h:x.map f=some b)(k:∀ a,x=some a->f a=b->G):G:=(dw h).elim λa h=>k a h.1 h.2
noncomputable def lO:List Str:=(["number","owner","fields","own","frozen","ident","name","is_class","parent","outer","methods","constants","mixed","ahead","attached","native","kept"]:List Str)++(["text","items","message","cause","sort","params","body","sight","nesting","code","natives","prelude","read","most","taken","last_number","last_ident","symbol_idents","made"]:List Str)++(["version","const_version","globals","out","is_ready","main","reason","thing","rows","spare","first","last","open","env","self_value","home","site","is_lambda","definer","state","proc","back"]:List Str)
noncomputable def nm(c:Nat):Str:=lO.getD c ""
theorem IG:lO.Nodup:=⋯
theorem IF{c d:Nat}(hc:c<58)(hd:d<58)(h:nm c=nm d):c=d:=by
 have l:lO.length=58:=⋯;have hc':c<lO.length:=by lia
 have hd':d<lO.length:=by lia
 have h':lO[c]=lO[d]:=by
  have e1:nm c=lO[c]:=by unfold nm;rw[gw,f9 hc'];rfl
  have e2:nm d=lO[d]:=by unfold nm;rw[gw,f9 hd'];rfl
  rw[<-e1,<-e2];exact h
 exact(List.getElem_inj IG).mp h'
noncomputable def zb(es:List (Nat × Ad)):List Va:=es.flatMap λe=>[rawInt ((e.1/1000:Nat):Int),rawInt ((e.1%1000:Nat):Int),.ref e.2]
noncomputable def rV(k:Nat):Bool:=k<880000
noncomputable def dO(k:Nat):Ad:=if rV k then 1122 else 1164
noncomputable def eZ(k:Nat):Ad:=if rV k then 1126 else 1166
noncomputable def gF(k:Nat):Str:=if rV k then "_law_named.<locals>.<lambda>" else "_law_both_right.<locals>.<lambda>"
noncomputable def gR(k:Nat):List Str:=if rV k then(["box","world","rows","name","turn","way","known","table","acts","lacks","more","term","thing","_law_take","_law_found","_law_error"]:List Str) else
 (["world","rows","names","name","line","thing","due","known","heard","alone","row","term"]:List Str)++(["module_line","len","_law_line","_law_found","_law_marked","find","object_respond","_law_error","module_constant","_law_const","_law_alone","class_parent"]:List Str)
inductive Prim
 | is|isnot|eq|ne|lt|gt|isin|notin|add|mul|mod|fdiv|pow
 | tup|list|dict0|item|rev|upto|from1|len|abs|int|sum|listof|dictof|itemsdict|enum|range
 | jH (t:String)|isinst (C:Ad)|upper|split|qR|uI|pop|append|extend|vinit
mutual
inductive T
 | con (v:Va)
 | loc (i:Nat)
 | attr (o:T) (x:Nat)
 | aS (o:T) (m:Nat) (as:TL)
 | call (f:Ad) (as:TL)
 | Ac (f:T) (as:TL)
 | make (C:Ad) (as:TL)
 | prim (p:Prim) (as:TL)
 | bm (p:Prim) (o:T) (as:TL)
 | and (a b:T)
 | or (a b:T)
 | not (a:T)
 | bF (c a b:T)
 | lc (caps:List (Op Nat)) (k:Nat) (iter elt test:T)
 | lam (k:Nat) (is:List Nat) (b:T)
 | Am (ks:List Str) (as:TL)
 | bad
inductive TL
 | nil
 | cons (a:T) (r:TL)
end
inductive U
 | skip
 | expr (t:T)
 | dQ (i:Nat) (t:T)
 | iG (is:List Nat) (t:T)
 | bI (o:T) (x:Nat) (v:T)
 | mH (o1:T) (x1:Nat) (o2:T) (x2:Nat) (v1 v2:T)
 | fD (o i v:T)
 | mK (o1 i1 o2 i2:T) (v1 v2:T)
 | aug (o:T) (x:Nat) (v:T)
 | bF (c:T) (a b:U)
 | seq (a b:U)
 | ret (t:T)
 | loop (i:Nat) (it:T) (body:U)
 | rW (i j:Nat) (it:T) (body:U)
 | qe (i:Nat) (n:T) (body:U)
 | sO (c:T) (body:U)
 | Fb (t:T)
 | CE (a:T) (i:Nat) (s:Str) (k1 k2 k3:Nat)
 | bad
noncomputable def yJ(k:Nat):T:=
 if k=833000 then .call 698 (.cons (.loc 2) (.cons (.loc 1) (.cons (.prim .list (.cons (.loc 0) .nil)) .nil)))
 else if k=834000 then .call 705 (.cons (.loc 2) (.cons (.loc 1) (.cons (.prim .list (.cons (.loc 0) .nil)) .nil)))
 else if k=836000 then .call 712 (.cons (.loc 3) (.cons (.loc 2) (.cons (.prim .list (.cons (.loc 0) (.cons (.loc 1) .nil))) .nil)))
 else if k=837000 then .call 607 (.cons (.loc 2) (.cons (.loc 1) (.cons (.prim .list (.cons (.loc 0) .nil)) (.cons (.con (.str "private" 0)) .nil))))
 else .call 733 (.cons (.loc 2) (.cons (.prim .item (.cons (.loc 0) (.cons (.con (.str "thing" 0)) .nil))) (.cons (.prim .list (.cons (.loc 1) .nil)) .nil)))
noncomputable def gX:List Str:=(["builtin","class_of","own_of","own_behind","root_of","is_own","number","text","thing","list_of","new_module","give_own","make_builtin","find_in","own_constant","constant_in"]:List Str)++(["set_constant","need_thawed","is_error_class","error","fail","moved","describe","real_class"]:List Str)
noncomputable def qg:List ((Ad × Nat) × Ad):=[((1055,6),836),((1055,0),857),((1055,12),862),((1055,11),869),((1055,10),877),((1055,1),884),((1055,2),891),((1055,3),898),((1055,4),905),((1055,23),912),((1055,7),919),((1055,9),926),((1055,8),961),((1055,18),968),((1055,19),982),((1055,20),989),((1055,17),996),((1055,22),1010),((1055,14),1017),((1055,13),1038),((1055,15),1045),((1055,16),1052),((228,5),225),((256,21),253),((40,99),37),((62,99),59),((82,99),79),((181,99),178),((228,99),218),((256,99),245),((1055,99),815)]
noncomputable def HC:List (Ad × List Nat):=[(228,[0,1,2,3,4,5,6,7,8,9,10,11,12,13,14,15,16]),(40,[0,1,2,3,4,5]),(62,[0,1,2,3,4,5,17]),(82,[0,1,2,3,4,5,18]),(181,[0,1,2,3,4,5,19,20]),(256,[6,1,21,22,23,24,25,26]),(1055,[27,28,29,30,31,32,33,34,35,36,37,38,39,40,41])]
noncomputable def gQ(C:Ad)(x:Nat):Bool:=((HC.lookup C).map λl=>l.contains x).getD false
theorem xC:∀{x:Op Bool},x.getD false=true->x=some true
 | none,h=>gP h
 | some _,h=>aj some h
noncomputable def yc:List Ad:=[1120,1127,1134,1141]
noncomputable def bO(C:Ad)(m:Nat):Op Ad:=qg.lookup (C,m)
noncomputable def bL(m:Nat):Op Nat:=lO.findIdx? (·==gX.getD m "")
noncomputable abbrev NS:=List (Str × NameKind)
section
variable(K:Frag)
noncomputable def gl(x:Str):Op Va:=(nsIn K mainGlobals x).bind λo=>o.or (if x==("__name__":Str) then none else bootBuiltins x)
noncomputable def M0(x:Str)(i:Nat)(k:NameKind):Op T:=if k=.globalImplicit then(gl K x).map λv=>.con (ab v) else if k=.globalExplicit then none else some (.loc i)
noncomputable def dP(ns:NS)(x:Str):T:=if x==("__debug__":Str)||x==("__classdict__":Str) then .bad else((ns.findIdx? (λq=>q.1==x)).bind λi=>(ns[i]?).bind λq=>M0 K x i q.2).getD .bad
noncomputable def constOf(e:Expr):Op (Const):=if h:e.ctorIdx=19 then some (Expr.Constant.elim (motive_1:=λ_=>Const) e h λa u p=>a) else none
theorem uD{e:Expr}{q:Const}(h:constOf e=some q):∃ u p,e=.Constant q u p:=eX h λhc=>Expr.Constant.elim (motive_1:=λe=>∀ hc:e.ctorIdx=19,Expr.Constant.elim (motive_1:=λ_=>Const) e hc (λa u p=>a)=q->∃ u p,e=.Constant q u p) e hc (λa u p _ h=>⟨u,p,aj (λk=>Expr.Constant k u p) h⟩) hc
noncomputable def nameQ(e:Expr):Op (Str × Pos):=if h:e.ctorIdx=23 then some (Expr.Name.elim (motive_1:=λ_=>Str × Pos) e h λa p=>(a,p)) else none
theorem Iw{e:Expr}{q:Str × Pos}(h:nameQ e=some q):e=.Name q.1 q.2:=eX h λhc=>Expr.Name.elim (motive_1:=λe=>∀ hc:e.ctorIdx=23,Expr.Name.elim (motive_1:=λ_=>Str × Pos) e hc (λa p=>(a,p))=q->e=.Name q.1 q.2) e hc (λa p _ h=>h▸rfl) hc
noncomputable def CY(e:Expr):Op (Expr × Str × Pos):=if h:e.ctorIdx=20 then some (Expr.Attribute.elim (motive_1:=λ_=>Expr × Str × Pos) e h λa b p=>(a,b,p)) else none
theorem tW{e:Expr}{q:Expr × Str × Pos}(h:CY e=some q):e=.Attribute q.1 q.2.1 q.2.2:=eX h λhc=>Expr.Attribute.elim (motive_1:=λe=>∀ hc:e.ctorIdx=20,Expr.Attribute.elim (motive_1:=λ_=>Expr × Str × Pos) e hc (λa b p=>(a,b,p))=q->e=.Attribute q.1 q.2.1 q.2.2) e hc (λa b p _ h=>h▸rfl) hc
noncomputable def uw(e:Expr):Op (Expr × List Expr × List Keyword × Pos):=if h:e.ctorIdx=16 then some (Expr.Call.elim (motive_1:=λ_=>Expr × List Expr × List Keyword × Pos) e h λa b k p=>(a,b,k,p)) else none
theorem qM{e:Expr}{q:Expr × List Expr × List Keyword × Pos}(h:uw e=some q):e=.Call q.1 q.2.1 q.2.2.1 q.2.2.2:=eX h λhc=>Expr.Call.elim (motive_1:=λe=>∀ hc:e.ctorIdx=16,Expr.Call.elim (motive_1:=λ_=>Expr × List Expr × List Keyword × Pos) e hc (λa b k p=>(a,b,k,p))=q->e=.Call q.1 q.2.1 q.2.2.1 q.2.2.2) e hc (λa b k p _ h=>h▸rfl) hc
noncomputable def PA(e:Expr):Op (List Expr):=if h:e.ctorIdx=25 then some (Expr.Tuple.elim (motive_1:=λ_=>List Expr) e h λa u p=>a) else none
theorem Mc{e:Expr}{q:List Expr}(h:PA e=some q):∃ u p,e=.Tuple q u p:=eX h λhc=>Expr.Tuple.elim (motive_1:=λe=>∀ hc:e.ctorIdx=25,Expr.Tuple.elim (motive_1:=λ_=>List Expr) e hc (λa u p=>a)=q->∃ u p,e=.Tuple q u p) e hc (λa u p _ h=>⟨u,p,aj (λk=>Expr.Tuple k u p) h⟩) hc
noncomputable def itemOf(e:Expr):Op (Expr × Expr):=if h:e.ctorIdx=21 then some (Expr.Subscript.elim (motive_1:=λ_=>Expr × Expr) e h λa b p=>(a,b)) else none
theorem xG{e:Expr}{q:Expr × Expr}(h:itemOf e=some q):∃ p,e=.Subscript q.1 q.2 p:=eX h λhc=>Expr.Subscript.elim (motive_1:=λe=>∀ hc:e.ctorIdx=21,Expr.Subscript.elim (motive_1:=λ_=>Expr × Expr) e hc (λa b p=>(a,b))=q->∃ p,e=.Subscript q.1 q.2 p) e hc (λa b p _ h=>⟨p,h▸rfl⟩) hc
noncomputable def sliceOf(e:Expr):Op (Op Expr × Op Expr × Op Expr):=if h:e.ctorIdx=26 then some (Expr.Slice.elim (motive_1:=λ_=>Op Expr × Op Expr × Op Expr) e h λa b c p=>(a,b,c)) else none
theorem Cw{e:Expr}{q:Op Expr × Op Expr × Op Expr}(h:sliceOf e=some q):∃ p,e=.Slice q.1 q.2.1 q.2.2 p:=eX h λhc=>Expr.Slice.elim (motive_1:=λe=>∀ hc:e.ctorIdx=26,Expr.Slice.elim (motive_1:=λ_=>Op Expr × Op Expr × Op Expr) e hc (λa b c p=>(a,b,c))=q->∃ p,e=.Slice q.1 q.2.1 q.2.2 p) e hc (λa b c p _ h=>⟨p,h▸rfl⟩) hc
noncomputable def Se(e:Expr):Op (UnaryOp × Expr):=if h:e.ctorIdx=3 then some (Expr.UnaryOp.elim (motive_1:=λ_=>UnaryOp × Expr) e h λa b p=>(a,b)) else none
theorem Mh{e:Expr}{q:UnaryOp × Expr}(h:Se e=some q):∃ p,e=.UnaryOp q.1 q.2 p:=eX h λhc=>Expr.UnaryOp.elim (motive_1:=λe=>∀ hc:e.ctorIdx=3,Expr.UnaryOp.elim (motive_1:=λ_=>UnaryOp × Expr) e hc (λa b p=>(a,b))=q->∃ p,e=.UnaryOp q.1 q.2 p) e hc (λa b p _ h=>⟨p,h▸rfl⟩) hc
noncomputable def Mu(e:Expr):Op (Expr × Operator × Expr):=if h:e.ctorIdx=2 then some (Expr.BinOp.elim (motive_1:=λ_=>Expr × Operator × Expr) e h λa b c p=>(a,b,c)) else none
theorem GF{e:Expr}{q:Expr × Operator × Expr}(h:Mu e=some q):∃ p,e=.BinOp q.1 q.2.1 q.2.2 p:=eX h λhc=>Expr.BinOp.elim (motive_1:=λe=>∀ hc:e.ctorIdx=2,Expr.BinOp.elim (motive_1:=λ_=>Expr × Operator × Expr) e hc (λa b c p=>(a,b,c))=q->∃ p,e=.BinOp q.1 q.2.1 q.2.2 p) e hc (λa b c p _ h=>⟨p,h▸rfl⟩) hc
noncomputable def Hy(e:Stmt):Op (Expr):=if h:e.ctorIdx=24 then some (Stmt.Expr.elim (motive_2:=λ_=>Expr) e h λa p=>a) else none
theorem Ew{e:Stmt}{q:Expr}(h:Hy e=some q):∃ p,e=.Expr q p:=eX h λhc=>Stmt.Expr.elim (motive_2:=λe=>∀ hc:e.ctorIdx=24,Stmt.Expr.elim (motive_2:=λ_=>Expr) e hc (λa p=>a)=q->∃ p,e=.Expr q p) e hc (λa p _ h=>⟨p,h▸rfl⟩) hc
noncomputable def RJ(e:Stmt):Op (Op Expr):=if h:e.ctorIdx=3 then some (Stmt.Return.elim (motive_2:=λ_=>Op Expr) e h λa p=>a) else none
theorem LI{e:Stmt}{q:Op Expr}(h:RJ e=some q):∃ p,e=.Return q p:=eX h λhc=>Stmt.Return.elim (motive_2:=λe=>∀ hc:e.ctorIdx=3,Stmt.Return.elim (motive_2:=λ_=>Op Expr) e hc (λa p=>a)=q->∃ p,e=.Return q p) e hc (λa p _ h=>⟨p,h▸rfl⟩) hc
noncomputable def cStr(e:Const):Op (Str):=if h:e.ctorIdx=5 then some (Const.str.elim (motive:=λ_=>Str) e h λa=>a) else none
theorem Kd{e:Const}{q:Str}(h:cStr e=some q):e=.str q:=eX h λhc=>Const.str.elim (motive:=λe=>∀ hc:e.ctorIdx=5,Const.str.elim (motive:=λ_=>Str) e hc (λa=>a)=q->e=.str q) e hc (λa _ h=>aj _ h) hc
noncomputable def cInt(e:Const):Op (Int):=if h:e.ctorIdx=2 then some (Const.int.elim (motive:=λ_=>Int) e h λa=>a) else none
theorem Kc{e:Const}{q:Int}(h:cInt e=some q):e=.int q:=eX h λhc=>Const.int.elim (motive:=λe=>∀ hc:e.ctorIdx=2,Const.int.elim (motive:=λ_=>Int) e hc (λa=>a)=q->e=.int q) e hc (λa _ h=>aj _ h) hc
noncomputable def nameOf(e:Expr):Op Str:=(nameQ e).map (·.1)
theorem iS{e:Expr}{g:Str}(h:nameOf e=some g):∃ p,e=.Name g p:=dJ h λq h e=>⟨q.2,(Iw h).trans (aj (λx=>Expr.Name x q.2) e)⟩
noncomputable def isStar(e:Expr):Bool:=Nat.beq e.ctorIdx 22
noncomputable def mj(g:Expr->T):List Expr->TL
 | []=>.nil
 | e::r=>.cons (g e) (mj g r)
noncomputable def fW(g:Expr->T)(es:List Expr):TL:=if es.any isStar then .cons .bad .nil else mj g es
noncomputable def Uh:Data->Op FuncData
 | .func f=>some f
 | _=>none
theorem Ky{d:Data}{f:FuncData}(h:Uh d=some f):d=.func f:=by cases d<;>first|exact bB h|exact aj _ (kr h)
noncomputable def So(a:Ad):Op FuncData:=(K.lookup a).bind λo=>Uh o.data
theorem Dj{a:Ad}{f:FuncData}(h:So K a=some f):∃ o,K.lookup a=some o/\o.data=.func f:=(dg h).imp λ_ h=>⟨h.1,Ky h.2⟩
noncomputable def uP(a:Ad):Bool:=(So K a).isSome
noncomputable def C9:CmpOp->Op Prim
 | .Eq=>some .eq
 | .NotEq=>some .ne
 | .Lt=>some .lt
 | .Gt=>some .gt
 | .In=>some .isin
 | .NotIn=>some .notin
 | .Is=>some .is
 | .IsNot=>some .isnot
 | _=>none
noncomputable def binOp:Operator->Op Prim
 | .Add=>some .add
 | .Mult=>some .mul
 | .Mod=>some .mod
 | .FloorDiv=>some .fdiv
 | .Pow=>some .pow
 | _=>none
noncomputable def isSet(e:Expr):Bool:=Nat.beq e.ctorIdx 7
noncomputable def fG(e:Expr):Bool:=((uw e).map λq=>(nameQ q.1).isSome&&q.2.1.isEmpty&&q.2.2.1.isEmpty).getD false
inductive BM:Str->Nat->Prim->Prop
 | qR:BM "get" 1 .qR
 | uI:BM "get" 2 .uI
 | pop:BM "pop" 1 .pop
 | append:BM "append" 1 .append
 | extend:BM "extend" 1 .extend
 | upper:BM "upper" 0 .upper
 | split:BM "split" 1 .split
noncomputable def C1(x:Str)(k:Nat):Op Prim:=
 if x="get"/\k=1 then some .qR else if x="get"/\k=2 then some .uI else if x="pop"/\k=1 then some .pop else if x="append"/\k=1 then some .append
 else if x="extend"/\k=1 then some .extend else if x="upper"/\k=0 then some .upper else if x="split"/\k=1 then some .split else none
theorem Qm{x:Str}{k:Nat}{p:Prim}(h:C1 x k=some p):BM x k p:=
 cK h (λq e=>q.1▸q.2▸e▸.qR) λh=>cK h (λq e=>q.1▸q.2▸e▸.uI) λh=>cK h (λq e=>q.1▸q.2▸e▸.pop) λh=>cK h (λq e=>q.1▸q.2▸e▸.append) λh=>cK h (λq e=>q.1▸q.2▸e▸.extend) λh=>cK h (λq e=>q.1▸q.2▸e▸.upper) λh=>cK h (λq e=>q.1▸q.2▸e▸.split) bB
inductive B1:Va->Prim->Prop
 | list:B1 (.type "list") .listof
 | dict:B1 (.type "dict") .dictof
 | int:B1 (.type "int") .int
 | len:B1 (.builtin "len") .len
 | abs:B1 (.builtin "abs") .abs
 | sum:B1 (.builtin "sum") .sum
noncomputable def b1(v:Va):Op Prim:=match v with
 | .type s=>if s="list" then some .listof else if s="dict" then some .dictof else if s="int" then some .int else none
 | .builtin s=>if s="len" then some .len else if s="abs" then some .abs else if s="sum" then some .sum else none
 | _=>none
inductive B2:Va->Prim->Prop
 | inst (C:Ad):B2 (.ref C) (.isinst C)
 | num (t:String) (h:t="bool"\/t="int"\/t="str"):B2 (.type t) (.jH t)
noncomputable def b2(v:Va):Op Prim:=match v with
 | .ref C=>some (.isinst C)
 | .type t=>if t="bool"\/t="int"\/t="str" then some (.jH t) else none
 | _=>none
noncomputable def Hi:T->Op Va
 | .con v=>some v
 | _=>none
noncomputable def QX(v:Va):Bool:=match v with
 | .builtin s=>s=="isinstance"
 | _=>false
noncomputable def GB(v:Va)(as:List T):T:=match as with
 | [a]=>(match b1 v with
  | some p=>.prim p (.cons a .nil)
  | none=>.bad)
 | [a,c]=>if QX v then(match (Hi c).bind b2 with
  | some p=>.prim p (.cons a .nil)
  | none=>.bad) else .bad
 | _=>.bad
noncomputable def Mt(f:Va)(as:List T):T:=match f with
 | .ref a=>if uP K a then .call a (as.foldr .cons .nil) else if (qg.lookup (a,99)).isSome then .make a (as.foldr .cons .nil) else .bad
 | v=>GB v as
theorem Ms{v:Va}{p:Prim}(h:b1 (ab v)=some p):B1 v p:=by
 cases v<;>first|exact bB h|skip
 ·exact cK h (λq e=>q▸e▸.list) λh=>cK h (λq e=>q▸e▸.dict) λh=>cK h (λq e=>q▸e▸.int) bB
 ·exact cK h (λq e=>q▸e▸.len) λh=>cK h (λq e=>q▸e▸.abs) λh=>cK h (λq e=>q▸e▸.sum) bB
theorem Ql{v:Va}{p:Prim}(h:b2 (ab v)=some p):B2 v p:=by
 cases v<;>first|exact bB h|skip
 ·exact cK h (λq e=>e▸.num _ q) bB
 ·exact kr h▸.inst _
theorem Of{v:Va}(h:QX (ab v)=true):v=.builtin "isinstance":=by
 cases v<;>first|exact gP h|skip
 exact aj _ (eq_of_beq h)
theorem Kv{t:T}{v:Va}(h:Hi t=some v):t=.con v:=by
 induction t using T.casesOn<;>first|exact bB h|skip
 rw[kr h]
noncomputable def strOf(e:Expr):Op Str:=(constOf e).bind cStr
theorem Bb{e:Expr}{s:Str}(h:strOf e=some s):∃ k p,e=.Constant (.str s) k p:=aN h λ_ h e=>(uD h).elim λu h=>h.elim λp h=>⟨u,p,h.trans (aj (λk=>Expr.Constant k u p) (Kd e))⟩
noncomputable def jI:List (Op Expr)->Op (List Str)
 | []=>some []
 | e::r=>(e.bind strOf).bind λs=>(jI r).map (s::·)
noncomputable def qH(e:Expr):Op (Expr × Str):=(CY e).map λq=>(q.1,q.2.1)
noncomputable def AR{α:Type}:List α->Op α
 | [a]=>some a
 | _=>none
theorem pJ{e:Expr}{q:Expr × Str}(h:qH e=some q):∃ p,e=.Attribute q.1 q.2 p:=dJ h λr h e=>⟨r.2.2,e▸tW h⟩
theorem kT{α:Type}{l:List α}{a:α}(h:AR l=some a):l=[a]:=by
 match l,h with
 | [b],h=>rw[kr h]
noncomputable def uQ(e:Expr):Op Expr:=(uw e).bind λc=>(nameOf c.1).bind λl=>(AR c.2.1).bind λm=>(uw m).bind λd=>(CY d.1).bind λq=>if l==("list":Str)&&q.2.1==("items":Str)&&d.2.1.isEmpty&&d.2.2.1.isEmpty&&c.2.2.1.isEmpty&&q.2.2.endLine==d.2.2.2.line&&!fG q.1 then some q.1 else none
noncomputable def yG(s:String):T->Bool
 | .con v=>(match v with
  | .type x=>x==s
  | _=>false)
 | _=>false
noncomputable def pZ(v:Va)(as:List Expr):Op Expr:=match v with
 | .type s=>if s=="dict" then(match as with
  | [e]=>uQ e
  | _=>none) else none
 | _=>none
noncomputable def HR(e:Expr):Bool:=((constOf e).bind cInt)==some 1
noncomputable def Sb:UnaryOp->Bool
 | .USub=>true
 | _=>false
noncomputable def HQ(e:Expr):Bool:=((Se e).map λq=>Sb q.1&&HR q.2).getD false
noncomputable def Pg(a b c:Op Expr):Op (Prim × Op Expr):=(if a.isNone&&b.isNone then c.bind λe=>if HQ e then some (.rev,none) else none else none).or
 ((if a.isNone&&c.isNone then b.map λk=>(.upto,some k) else none).or (a.bind λe=>if HR e&&b.isNone&&c.isNone then some (.from1,none) else none))
noncomputable def zl(e:Expr):Op (Prim × Op Expr):=(sliceOf e).bind λq=>Pg q.1 q.2.1 q.2.2
noncomputable def isSlice(e:Expr):Bool:=Nat.beq e.ctorIdx 26
noncomputable def mh(ns:NS)(q:Str × NameKind):Op Nat:=if q.2==.free then ns.findIdx? (λp=>p.1==q.1) else none
noncomputable def iP(ns:NS)(l:NS):NS:=l.map λ(n,k)=>if (k==.free&&ns.lookup n==some .cell) then(n,.cell) else(n,k)
noncomputable def EE(q:Op (Str × NameKind)):Bool:=(q.map λp=>p.2==.local).getD false
noncomputable def Dt(q:Op (Str × NameKind)):Bool:=(q.map λp=>p.2==.cell).getD false
noncomputable def AG(ns:NS)(sc:Scope)(k:Nat):Bool:=sc.kind==.function&&sc.names.all (λq=>q.2 !=.cell)&&decide ((sc.names.map (·.1)).Nodup)&&EE sc.names[k]?&&sc.names.all (λq=>q.2 !=.free||ns.lookup q.1==some .cell)&&sc.names.map (·.1) !=gR 0&&sc.names.map (·.1) !=gR 900000
noncomputable def qU(ns:NS)(sc:Scope)(pos:Pos):Bool:=ns.map (·.1)==gR (pos.line*1000+pos.col)&&decide (pos.col<1000)&&decide (sc.names.length<10)&&sc.kind==.function&&!sc.isGenerator&&!sc.isCoroutine&&(sc.names.dropWhile λq=>q.2==.free).all (λq=>q.2==.globalImplicit)&&decide ((sc.names.map (·.1)).Nodup)&&sc.names.all (λq=>q.2 !=.free||ns.lookup q.1==some .cell)
noncomputable def Qt:Const->T
 | .none=>.con .none
 | .bool b=>.con (.bool b)
 | .int i=>.con (.int i 0)
 | .str s=>.con (.str s 0)
 | _=>.bad
noncomputable def G5(op:BoolOp)(ts:List T):T:=match op with
 | .And=>(match ts with
  | [a,b]=>.and a b
  | [a,b,c]=>.and a (.and b c)
  | _=>.bad)
 | .Or=>(match ts with
  | [a,b]=>.or a b
  | [a,b,c]=>.or a (.or b c)
  | _=>.bad)
noncomputable def Qu(op:UnaryOp)(a:T):T:=match op with
 | .Not=>.not a
 | _=>.bad
noncomputable def yq(g:Expr->T)(a:T)(ops:List CmpOp)(bs:List Expr):T:=match ops with
 | [op]=>(match bs with
  | [b]=>(match C9 op with
   | some p=>if isSet b then .bad else .prim p (.cons a (.cons (g b) .nil))
   | none=>.bad)
  | _=>.bad)
 | _=>.bad
noncomputable def MB(g:Expr->T)(ks:List (Op Expr))(vs:List Expr):T:=match ks with
 | []=>(match vs with
  | []=>.prim .dict0 .nil
  | _=>.bad)
 | k::ks=>(jI (k::ks)).elim .bad λks'=>if ks'.length==vs.length&&(k::ks).length==vs.length then .Am ks' (fW g vs) else .bad
noncomputable def G8(ns:NS)(g:Expr->T)(x:Str)(as:List Expr):T:=if as.any isStar then .bad else match dP K ns x with
 | .con v=>(match pZ v as with
  | some o=>if yG "list" (dP K ns "list") then .prim .itemsdict (.cons (g o) .nil) else .bad
  | none=>Mt K v (as.map g))
 | .loc i=>.Ac (.loc i) (fW g as)
 | _=>.bad
noncomputable def BU:T->Op Ad
 | .con v=>(match v with
  | .ref a=>some a
  | _=>none)
 | _=>none
noncomputable def yC(C:Ad):Op Ad:=if C=765 then some 762 else bO C 99
noncomputable def G7(g:Expr->T)(o:Expr)(x:Str)(apos pos:Pos)(as:List Expr):T:=if as.length<20&&apos.endLine==pos.line&&!fG o&&!as.any isStar then
  (if x==("__init__":Str) then(match BU (g o) with
   | some C=>(yC C).elim .bad λf=>.call f (fW g as)
   | none=>if yG "ValueError" (g o)&&as.length==2 then .prim .vinit (fW g as) else .bad)
  else match C1 x as.length with
   | some p=>.bm p (g o) (fW g as)
   | none=>(gX.findIdx? (·==x)).elim .bad λm=>.aS (g o) m (fW g as)) else .bad
noncomputable def G9(ns:NS)(g:Expr->T)(fn:Expr)(as:List Expr)(kws:List Keyword)(pos:Pos):T:=match kws with
 | []=>(match fn with
  | .Name x _=>G8 K ns g x as
  | .Attribute o x apos=>G7 g o x apos pos as
  | _=>.bad)
 | _::_=>.bad
noncomputable def MW(g:Expr->T):List Expr->Op T
 | []=>some (.con (.bool true))
 | [t]=>some (g t)
 | _=>none
noncomputable def Hf(ns:NS)(g h:Expr->T)(elt:Expr)(gens:List Comprehension)(sc:Scope):T:=(AR gens).elim .bad λq=>(nameOf q.target).elim .bad λx=>if isSet q.iter||q.is_async !=0 then .bad else(sc.names.findIdx? (λp=>p.1==x)).elim .bad λk=>if AG ns sc k then(MW h q.ifs).elim .bad λt=>.lc (sc.names.map (mh ns)) k (g q.iter) (h elt) t else .bad
noncomputable def noArgs(a:Arguments):Bool:=a.posonlyargs.isEmpty&&a.args.isEmpty&&a.vararg.isNone&&a.kwonlyargs.isEmpty&&a.kw_defaults.isEmpty&&a.kwarg.isNone&&a.defaults.isEmpty
theorem E2{a:Arguments}(h:noArgs a=true):a=⟨[],[],none,[],[],none,[]⟩:=by obtain⟨p,as,v,ko,kd,kw,d⟩:=a;unfold noArgs at h;simp only[e9,List.isEmpty_iff,Option.isNone_iff_eq_none] at h;obtain⟨⟨⟨⟨⟨⟨h1,h2⟩,h3⟩,h4⟩,h5⟩,h6⟩,h7⟩:=h;rw[h1,h2,h3,h4,h5,h6,h7]
noncomputable def aC:Nat->NS->Expr->T
 | 0,_,_=>.bad
 | f+1,ns,e=>match e with
  | .Constant k _ _=>Qt k
  | .Name x _=>dP K ns x
  | .BoolOp op es _=>G5 op (es.map (aC f ns))
  | .UnaryOp op a _=>Qu op (aC f ns a)
  | .IfExp c a b _=>.bF (aC f ns c) (aC f ns a) (aC f ns b)
  | .BinOp a op b _=>(binOp op).elim .bad λp=>.prim p (.cons (aC f ns a) (.cons (aC f ns b) .nil))
  | .Compare a ops bs _=>yq (aC f ns) (aC f ns a) ops bs
  | .Attribute o x _=>(lO.findIdx? (·==x)).elim .bad λk=>if fG o then .bad else .attr (aC f ns o) k
  | .Subscript o i _=>(match zl i with
   | some q=>.prim q.1 (.cons (aC f ns o) (match q.2 with
    | none=>.nil
    | some k=>.cons (aC f ns k) .nil))
   | none=>if isSlice i then .bad else .prim .item (.cons (aC f ns o) (.cons (aC f ns i) .nil)))
  | .Tuple es _ _=>.prim .tup (fW (aC f ns) es)
  | .List es _=>.prim .list (fW (aC f ns) es)
  | .Dict ks vs _=>MB (aC f ns) ks vs
  | .Call fn as kws pos=>G9 K ns (aC f ns) fn as kws pos
  | .ListComp elt gens sc _=>Hf ns (aC f ns) (aC f (iP ns sc.names)) elt gens sc
  | .Lambda a body sc pos=>if noArgs a&&qU ns sc pos then .lam (pos.line*1000+pos.col) ((sc.names.takeWhile λq=>q.2==.free).map λq=>(ns.findIdx? (λp=>p.1==q.1)).getD 0) (aC f sc.names body) else .bad
  | _=>.bad
noncomputable def Dw(t:T):Op Nat:=match t with
 | .loc i=>some i
 | _=>none
theorem Ic{t:T}{i:Nat}(h:Dw t=some i):t=.loc i:=by
 induction t using T.casesOn<;>first|exact bB h|skip
 rw[kr h]
noncomputable def OD(q:Op (Str × NameKind)):Bool:=(q.map λp=>p.2==.local||p.2==.cell).getD false
noncomputable def idxOf(ns:NS)(e:Expr):Op Nat:=(nameOf e).bind λx=>(Dw (dP K ns x)).bind λi=>if OD ns[i]? then some i else none
noncomputable def yF(e:Expr):Bool:=Nat.beq e.ctorIdx 8||Nat.beq e.ctorIdx 9||Nat.beq e.ctorIdx 10
noncomputable def idxs(ns:NS):List Expr->Op (List Nat)
 | []=>some []
 | e::r=>(idxOf K ns e).bind λi=>(idxs ns r).map (i::·)
noncomputable def mE(e:Expr):Nat:=((nameQ e).map (·.2.line)).getD 0
noncomputable def rE(ns:NS)(es:List Expr)(is:List Nat)(v:Expr):Op Bool:=match PA v with
 | some vs=>if vs.length==es.length&&!vs.any isStar then
   (if is.any (λi=>Dt ns[i]?) then some false
   else if (es.length==2||es.length==3)&&decide is.Nodup&&is.all (λi=>EE ns[i]?)&&es.all (λe=>mE e==(es.head?.map mE).getD 0)&&!vs.all (foldedForSure 8)&&!vs.all (constantsAlone 8) then some true else none) else none
 | none=>some false
noncomputable def yK(ns:NS)(x:Str)(p:Pos):Expr->Bool
 | .ListComp _ _ sc vp=>ns.lookup x==some .local&&p.line==vp.line&&!(sc.names.any λq=>q.1==x&&(q.2==.local||q.2==.cell))
 | _=>false
noncomputable def isRef(a:Ad):T->Bool
 | .con v=>(match v with
  | .ref x=>x==a
  | _=>false)
 | _=>false
noncomputable def m8(p:T->Bool)(ns:NS)(e:Expr):Op Expr:=(uw e).bind λc=>(nameOf c.1).bind λg=>(AR c.2.1).bind λm=>if c.2.2.1.isEmpty&&p (dP K ns g) then some m else none
noncomputable def Eo(ns:NS)(es:List Expr)(v:Expr):U:=(idxs K ns es).elim .bad λis=>(rE ns es is v).elim .bad λ_=>.iG is (aC K 30 ns v)
noncomputable def pairOf:List Expr->Op (Expr × Expr)
 | [a,b]=>some (a,b)
 | _=>none
noncomputable def M6(e:Expr):Op (Expr × Expr):=(PA e).bind pairOf
noncomputable def NU(ns:NS)(a b:Expr × Str)(v1 v2:Expr):U:=(lO.findIdx? (·==a.2)).elim .bad λk1=>(lO.findIdx? (·==b.2)).elim .bad λk2=>if [v1,v2].any isStar then .bad else .mH (aC K 30 ns a.1) k1 (aC K 30 ns b.1) k2 (aC K 30 ns v1) (aC K 30 ns v2)
noncomputable def NV(ns:NS)(a b:Expr × Expr)(v1 v2:Expr):U:=if isSlice a.2||isSlice b.2||[v1,v2].any isStar then .bad else .mK (aC K 30 ns a.1) (aC K 30 ns a.2) (aC K 30 ns b.1) (aC K 30 ns b.2) (aC K 30 ns v1) (aC K 30 ns v2)
noncomputable def Hg(ns:NS)(e1 e2 v1 v2:Expr):Op U:=((qH e1).bind λa=>(qH e2).map λb=>NU K ns a b v1 v2).or ((itemOf e1).bind λa=>(itemOf e2).map λb=>NV K ns a b v1 v2)
noncomputable def qO(ns:NS)(es:List Expr)(v:Expr):Op U:=(pairOf es).bind λe=>(M6 v).bind λq=>Hg K ns e.1 e.2 q.1 q.2
noncomputable def yp(ns:NS)(t v:Expr):U:=match t with
 | .Name x p=>(idxOf K ns (.Name x p)).elim .bad λi=>if yF v&&!yK ns x p v then .bad else .dQ i (aC K 30 ns v)
 | .Attribute o x _=>(lO.findIdx? (·==x)).elim .bad λk=>.bI (aC K 30 ns o) k (aC K 30 ns v)
 | .Subscript o i _=>if isSlice i then .bad else .fD (aC K 30 ns o) (aC K 30 ns i) (aC K 30 ns v)
 | .Tuple es _ _=>(match qO K ns es v with
  | some u=>u
  | none=>Eo K ns es v)
 | _=>.bad
noncomputable def Dc(ns:NS)(t:Expr)(op:Operator)(v:Expr):U:=match op with
 | .Add=>(CY t).elim .bad λq=>(lO.findIdx? (·==q.2.1)).elim .bad λk=>.aug (aC K 30 ns q.1) k (aC K 30 ns v)
 | _=>.bad
noncomputable def Aj(ns:NS)(i:Nat)(it:Expr)(tb:U):U:=match m8 K (yG "range") ns it with
 | some m=>.qe i (aC K 30 ns m) tb
 | none=>if isSet it then .bad else .loop i (aC K 30 ns it) tb
noncomputable def Ai(ns:NS)(e1 e2 it:Expr)(tb:U):U:=(idxOf K ns e1).elim .bad λi=>(idxOf K ns e2).elim .bad λj=>(m8 K (yG "enumerate") ns it).elim .bad λm=>.rW i j (aC K 30 ns m) tb
noncomputable def De(ns:NS)(t it:Expr)(tb:U):U:=match t with
 | .Name x p=>(idxOf K ns (.Name x p)).elim .bad λi=>Aj K ns i it tb
 | .Tuple es _ _=>(match es with
  | [e1,e2]=>Ai K ns e1 e2 it tb
  | _=>.bad)
 | _=>.bad
noncomputable def qP(ns:NS)(e cause:Op Expr):U:=match e with
 | some e=>(match cause with
  | none=>(m8 K (isRef 785) ns e).elim .bad λm=>.Fb (aC K 30 ns m)
  | some _=>.bad)
 | none=>.bad
noncomputable def isAdd:Operator->Bool
 | .Add=>true
 | _=>false
noncomputable def Mq(e:Expr):Op (Expr × Expr):=(Mu e).bind λq=>if isAdd q.2.1 then some (q.1,q.2.2) else none
noncomputable def yv(e:Expr):Op (Str × Str × Str × Str × Str):=(Mq e).bind λq=>(strOf q.1).bind λs=>(qH q.2).bind λc=>(qH c.1).bind λb=>(qH b.1).bind λa=>(nameOf a.1).map λx=>(s,x,a.2,b.2,c.2)
noncomputable def Nb(s:Stmt):Op Expr:=(RJ s).bind id
noncomputable def MR:ExceptHandler->Op (Expr × Str × List Stmt)
 | .ExceptHandler ty nm b _=>ty.bind λt=>nm.map λx=>(t,x,b)
noncomputable def Nf(body:List Stmt)(hs:List ExceptHandler):Op (Expr × Expr × Str × Str × Str × Str × Str × Str):=(AR body).bind λs=>(Hy s).bind λa=>(AR hs).bind λh=>(MR h).bind λq=>(AR q.2.2).bind λr=>(Nb r).bind λe=>(yv e).map λz=>(a,q.1,q.2.1,z)
noncomputable def yr(ns:NS)(body:List Stmt)(hs:List ExceptHandler):U:=(Nf body hs).elim .bad λq=>if q.2.2.1==q.2.2.2.2.1&&isRef 785 (aC K 30 ns q.2.1)&&(nameOf q.2.1).isSome&&!yF q.1 then(idxOf K ns (.Name q.2.2.1 ⟨0,0,0,0⟩)).elim .bad λi=>if EE ns[i]? then(lO.findIdx? (·==q.2.2.2.2.2.1)).elim .bad λk1=>(lO.findIdx? (·==q.2.2.2.2.2.2.1)).elim .bad λk2=>(lO.findIdx? (·==q.2.2.2.2.2.2.2)).elim .bad λk3=>.CE (aC K 30 ns q.1) i q.2.2.2.1 k1 k2 k3 else .bad else .bad
noncomputable def jF:Nat->NS->List Stmt->U
 | 0,_,_=>.bad
 | f+1,ns,body=>match body with
  | []=>.skip
  | s::r=>.seq (match s with
   | .Expr e _=>if yF e then .bad else .expr (aC K 30 ns e)
   | .Assign ts v _=>(AR ts).elim .bad λt=>yp K ns t v
   | .AugAssign t op v _=>Dc K ns t op v
   | .If c a b _=>.bF (aC K 30 ns c) (jF f ns a) (jF f ns b)
   | .Return e _=>(match e with
    | some e=>.ret (aC K 30 ns e)
    | none=>.ret (.con .none))
   | .For t it body els _=>(match els with
    | []=>De K ns t it (jF f ns body)
    | _::_=>.bad)
   | .While c body els _=>(match els with
    | []=>.sO (aC K 30 ns c) (jF f ns body)
    | _::_=>.bad)
   | .Try body hs els fin _=>(match els with
    | []=>(match fin with
     | []=>yr K ns body hs
     | _::_=>.bad)
    | _::_=>.bad)
   | _=>.bad) (jF f ns r)
end
noncomputable def yH:List Nat:=[3,40,39,62,61,82,81,120,119,140,139,161,160,181,180,201]++[200,228,227,256,255,486,485,765,764,785,784,1055,1054,21,20,37]++[36,59,58,52,79,78,72,98,97,105,104,112,111,117,116,137]++[136,130,158,157,151,178,177,171,198,197,191,218,217,211,225,224]++[245,244,238,253,252,246,267,266,274,273,281,280,287,286,282,294]++[293,301,300,308,307,315,314,322,321,327,326,334,333,341,340,348]++[347,353,352,360,359,368,367,361,375,374,382,381,389,388,396,395]++[403,402,408,407,415,414,422,421,429,428,436,435,443,442,450,449]++[457,456,462,461,467,466,474,473,495,494,502,501,509,508,516,515]++[523,522,530,529,537,536,544,543,551,550,558,557,565,564,572,571]++[579,578,586,585,593,592,600,599,607,606,614,613,621,620,628,627]++[635,634,642,641,649,648,656,655,663,662,670,669,677,676,684,683]++[691,690,698,697,705,704,712,711,719,718,726,725,733,732,740,739]++[747,746,762,761,755,782,781,815,814,808,822,821,829,828,836,835]++[843,842,850,849,857,856,862,861,869,868,877,876,870,884,883,891]++[890,898,897,905,904,912,911,919,918,926,925,933,932,940,939,947]++[946,954,953,961,960,968,967,975,974,982,981,989,988,996,995,1003]++[1002,1010,1009,1017,1016,1024,1023,1031,1030,1038,1037,1045,1044,1052,1051,1066]++[1065,1073,1072,1080,1079,1087,1086,1094,1093,1099,1098,1106,1105,1113,1112,1120]++[1119,1127,1126,1134,1133,1141,1140,1148,1147,1155,1154,1162,1161,1167,1166,1174]++[1173,2,788,789,792,800]
noncomputable def Kf(P:Params):Frag:=yH.map λa=>(a,((HA.Bw P).get a).getD default)
noncomputable def fnAt(P:Params)(f:Ad):FuncData:=(So (Kf P) f).getD default
noncomputable def SO:FuncBody->Op (List Stmt)
 | .stmts b=>some b
 | _=>none
theorem J7{d:FuncBody}{b:List Stmt}(h:SO d=some b):d=.stmts b:=by cases d<;>first|exact bB h|exact aj _ (kr h)
noncomputable def jR(P:Params)(f:Ad):List Stmt:=(SO (fnAt P f).body).getD []
structure zN(fd:FuncData)(cs:List (Ad × Va)):Prop where
 par:fd.params=⟨[],[],none,[],[],none,[]⟩
 U8:fd.defaults=.none
 kwd:fd.kwdefaults=.none
 qS:fd.globals=mainGlobals
 JT:fd.builtins=builtinsNs
 knd:fd.scope.kind=.function
 gen:fd.scope.isGenerator=false
 co:fd.scope.isCoroutine=false
 nd:(fd.scope.names.map (·.1)).Nodup
 kinds:∀ q∈fd.scope.names,q.2=.free\/q.2=.globalImplicit
 cap:∀(i:Nat) (q:Ad × Va),cs[i]?=some q->∃ x,fd.scope.names[i]?=some (x,.free)/\fd.closure.lookup x=some q.1
 S2:∀ x a,fd.closure.lookup x=some a->∃ q∈cs,q.1=a
 inj:∀ x y a,fd.closure.lookup x=some a->fd.closure.lookup y=some a->x=y
 Tw:∀ k,fd.scope.names.map (·.1)≠gR k
def Mn(K:Frag)(k:Nat)(o:Obj)(cs:List (Ad × Va))(vs:List Va):Prop:=∃ (fd:FuncData) (c':Ad) (body:Expr) (f:Nat),o.data=.func fd/\vs=.ref c'::cs.map (λq=>ab q.2)/\fd.code=.ref c'/\fd.qualname=gF k/\fd.body=.expr body/\aC K f fd.scope.names body=yJ k/\zN fd cs
noncomputable def uU:Arguments × List Stmt × Scope:=match pw.main.body.drop 121 with
 | .FunctionDef _ a b _ _ _ s _ _ _::_=>(a,b,s)
 | _=>(⟨[],[],none,[],[],none,[]⟩,[],default)
noncomputable def Oz:Pos:=match pw.main.body.drop 121 with
 | .FunctionDef _ _ _ _ _ _ _ _ _ p::_=>p
 | _=>default
noncomputable def Ox:DefRec:=⟨"law",uU.1,uU.2.1,uU.2.2,Oz⟩
def YP(w:World)(h:Heap):Prop:=∀ b o,(H1 w.params).get? b=some o->h.get? b=some o
noncomputable abbrev qd:RowW:=PySem.Challenge.rw_nz0059_01.row.toRowW
def T8(w:World)(sc:Ad)(ns:List Int):Prop:=∃ (sA aF:Sh) (mg mb:Str->Op Va) (args:List WData),Ground qv jS qd.records (XL qv []) w sA mg mb aF.heap/\YP w aF.heap/\aF.gens=#[]/\qd.claim.pre args=true/\ns.length<64/\(∃ (vs:List Va) (n:Nat),aF.heap.get? sc=some (listOf vs.toArray n)/\vs.map ab=ns.map λi=>.int i 0)/\¬ wpAny (model pw w) callerA (PySem.call (.ref 1174) [.ref sc]) (λv s'=>GoodWG qd.claim (classAt sA.heap) (ExcName.means sA.heap) args aF (.ok (.ret v)) s') (λe s'=>GoodWG qd.claim (classAt sA.heap) (ExcName.means sA.heap) args aF (.error e) s') aF
noncomputable def NC:World × Ad × List Int:=@Classical.epsilon _ ⟨⟨λq q=>0,{ strHash:=λq=>0,shareClass:=λq=>0,mergeTok:=id,idOf:=λq=>0,idOfShared:=λq q=>0,followText:=λq=>false,idOfImm:=λq=>0 }⟩,0,[]⟩ λx=>T8 x.1 x.2.1 x.2.2
noncomputable def wd:World:=NC.1
noncomputable def vQ:Ad:=NC.2.1
noncomputable def IK:List Int:=NC.2.2
noncomputable def K:Frag:=Kf wd.params
def HX:Nat->Obj->List (Ad × Va)->List Va->Prop:=Mn K
end
abbrev LL:OpenLaw:=PySem.Challenge.rw_nz0059_01
theorem Vx:(sreFenced pw.main&&((moduleNames pw.main.body).isEmpty||lookedIntoSs (moduleNames pw.main.body) pw.main.body))=true:=by kernel_rfl
theorem Vy:namesResolve pw=true:=by kernel_rfl
theorem Vz:pw.boundNames.all (λn=>!worldNames.contains n)=true:=by kernel_rfl
theorem VC:(!(importedModules pw.main.body).all cThrough.contains)=false:=by kernel_rfl
theorem VF:readsOut pw pw.main.body "vars"=false:=by kernel_rfl
theorem VG:readsOut pw pw.main.body "dir"=false:=by kernel_rfl
theorem VH:readsOut pw pw.main.body "locals"=false:=by kernel_rfl
theorem VD:(["vars","dir","locals"]:List Str).filter (readsOut pw pw.main.body)=[]:=by rw[List.filter_cons,VF,List.filter_cons,VG,List.filter_cons,VH];rfl
theorem VE:noRoadLSs { strict:=false,foot:=none,bare:=[] } pw.main.body=true:=by kernel_rfl
theorem VA:noRoadLSs { strict:=!(importedModules pw.main.body).all cThrough.contains,foot:=none,bare:=(["vars","dir","locals"]:List Str).filter (readsOut pw pw.main.body) } pw.main.body=true:=by rw[VC,VD];exact VE
theorem VB:(namesMeet pw pw.main.body λ_ n=>attrL n)=true:=by kernel_rfl
theorem PM:looksOpen pw=true:=by unfold looksOpen;rw[Vx,Vy,Vz,VA,VB];rfl
theorem wB:(decide (LL.foot<=(behindTheImports LL.prog).length)&&LL.footing.all footLine&&noClassBlock LL.prog LL.footing)=true:=by kernel_rfl
theorem wC:noRoadLSs { strict:=true,foot:=some LL.bound',writes:=LL.writes,may:=LL.may } LL.footing=true:=by kernel_rfl
theorem wD:(defStands LL.about LL.above&&LL.namesIt)=true:=by kernel_rfl
theorem wE:((["type","isinstance","issubclass","getattr","hasattr"]:List Str).all (λn=>LL.about !=[n])&&LL.bound'.all (λn=>!builtinNamed n||LL.about==[n]||!LL.reads n))=true:=by kernel_rfl
theorem wF:namesMeet LL.prog LL.footing (λsc n=>(!(["type","isinstance","issubclass","getattr","hasattr"]:List Str).contains n||sc.names.lookup n==some .globalImplicit)&&
  (LL.may !=some n||sc.kind==.module||sc.names.lookup n==some .globalImplicit))=true:=by kernel_rfl
theorem wG:(LL.own.contains LL.name&&LL.own.eraseDups.length==LL.own.length&&LL.own.all (λn=>!builtinNamed n))=true:=by kernel_rfl
theorem wH:(namesMeet LL.prog LL.above (λ_ n=>!LL.own.contains n)&&namesMeet LL.prog LL.footing λsc n=>sc.kind==.module||sc.names.lookup n !=some .globalExplicit)=true:=by kernel_rfl
theorem wP:LL.row.wellSaid=true:=by
 unfold OpenRow.wellSaid OpenRow.partSaid;rw[show looksOpen LL.row.prog=true from PM]
 kernel_rfl
theorem well:LL.wellSaid=true:=by
 unfold OpenLaw.wellSaid;have hB:=wB;have hD:=wD;have hE:=wE;have hG:=wG;have hH:=wH;simp only[e9] at hB hD hE hG hH;rw[wP,hB.1.1,hB.1.2,hB.2,wC,hD.1,hD.2,hE.1,hE.2,wF,hG.1.1,hG.1.2,hG.2,hH.1,hH.2]
 kernel_rfl
theorem head(call:WalkO qv jS (XL qv []) YP PySem.Challenge.rw_nz0059_01.row.toRowW Ox [] (λf vs=>PySem.call f vs)):PySem.Challenge.rw_nz0059_01.Holds:=by
 refine holds_law well λsaid=>?_;refine PySem.W.holds_open (q:=qv) (loose:=jS) (Xt:=λs=>xlAt qv [] s&&recOk [] s) (XP:=XL qv []) (Yf:=λs=>s.heap) (Ya:=λw=>H1 w.params) (YP:=YP) (d:=Ox) (kwd:=[]) (N:=9000)
  left (λw s e b o h=>e▸h) (λw h h' y k b o e=>k _ _ (y _ _ e)) (λs e=>xl_of s (dm e).1) XL.keeps (by kernel_rfl) (by kernel_rfl) (by kernel_rfl) (λs e=>recFacts_of (dm e).2) (by rfl) said ⋯ ⟨rfl,rfl,rfl,rfl,rfl,⋯⟩ ?hw call
 case hw=>w_witness2
section
inductive PO where
 | inst (C:Ad) (fs:List (Nat × Va))
 | dict (t:Nat × Nat) (kvs:List (Str × Va))
 | list (t:Nat × Nat) (vs:List Va)
 | tup (vs:List Va)
 | lam (n:Nat) (vs:List Va)
 | exc (C:Ad) (fs:List (Nat × Va))
 | tab (es:List (Nat × Ad))
 | code (k:Nat)
 | raw (C:Ad)
 | jX (C:Ad) (fs:List (Nat × Va))
abbrev PH:=Ad->Op PO
abbrev NP:=Lv→PH→Prop
noncomputable def upd(P:PH)(a:Ad)(o:PO):PH:=λb=>if b=a then some o else P b
theorem aA(P:PH)(a:Ad)(o:PO):upd P a o a=some o:=by simp [upd]
theorem aD{P:PH}{a b:Ad}{o:PO}(h:b≠a):upd P a o b=P b:=by simp [upd,h]
theorem Mi(P:PH)(a:Ad)(o o':PO):upd (upd P a o) a o'=upd P a o':=by funext b;unfold upd;split<;>rfl
theorem aI{P:PH}{a b:Ad}{x o:PO}(h:P b=some x)(hn:P a=none):upd P a o b=some x:=by rw[aD,h];rintro rfl;rw[h] at hn;cases hn
inductive gO:List DictEntry->List (Nat × Va)->Prop
 | nil:gO [] []
 | cons {e es x v fs} (tk:Tok):x<58->e.key=.str (nm x) tk->ab e.val=v->gO es fs->gO (e::es) ((x,v)::fs)
noncomputable def eH(x:Nat)(v:Va):List (Nat × Va)->List (Nat × Va)
 | []=>[(x,v)]
 | f::fs=>if f.1=x then(f.1,v)::fs else f::eH x v fs
noncomputable def eF(x:Nat):List (Nat × Va)->Op Va
 | []=>none
 | f::fs=>if f.1=x then some f.2 else eF x fs
theorem Ja{x:Nat}{v:Va}{f:Nat × Va}{fs:List (Nat × Va)}:eH x v (f::fs)=if f.1=x then(f.1,v)::fs else f::eH x v fs:=rfl
theorem N5{x:Nat}{f:Nat × Va}{fs:List (Nat × Va)}:eF x (f::fs)=if f.1=x then some f.2 else eF x fs:=rfl
theorem gO.noRef{es fs}(h:gO es fs):es.any (·.refKey)=false:=by
 induction h with
 | nil=>rfl
 | @cons e es x v fs tk hx hk hv _ ih=>rw[jo,ih];simp [DictEntry.refKey,hk]
theorem jZ(x y:Str)(t:Tok):(Value.str x t).isStr y=decide (x=y):=by
 rw[Value.isStr];by_cases h:x=y
 ·subst h;simp
 ·simp [h]
theorem gO.get{es fs}(h:gO es fs){x:Nat}(lx:x<58):∃ r,getL (nm x) es=some r/\r.map ab=eF x fs:=by
 have hn:=h.noRef;unfold getL;rw[hn];induction h with
 | nil=>exact⟨none,rfl,rfl⟩
 | @cons e es y v fs tk ly hk hv h' ih=>
  rw[List.find?_cons,N5];by_cases hx:y=x
  ·subst hx
   have:e.key.isStr (nm y)=true:=by rw[hk,jZ];simp
   simp only[this,if_true];exact⟨_,rfl,by simp [hv]⟩
  ·have:e.key.isStr (nm x)=false:=by rw[hk,jZ];exact av λq=>hx (IF ly lx q)
   simp only[this,hx,if_false];exact ih h'.noRef
theorem gO.put{es fs}(h:gO es fs){x:Nat}(lx:x<58)(hs:Int)(t:Tok)(v:Va):gO (putL (nm x) hs (.str (nm x) t) v es) (eH x (ab v) fs):=by
 induction h with
 | nil=>exact .cons t lx rfl rfl .nil
 | @cons e es y u fs tk ly hk hv h' ih=>
  rw[putL,Ja];by_cases hx:y=x
  ·subst hx
   have:e.key.isStr (nm y)=true:=by rw[hk,jZ];simp
   simp only[this,if_true];exact .cons tk ly hk rfl h'
  ·have:e.key.isStr (nm x)=false:=by rw[hk,jZ];exact av λq=>hx (IF ly lx q)
   simp only[this,hx,if_false];exact .cons tk ly hk hv ih
theorem gO.len{es fs}(h:gO es fs):es.length=fs.length:=by
 induction h with
 | nil=>rfl
 | cons _ _ _ _ _ ih=>simp [ih]
theorem Jb(x:Nat)(v:Va):∀ fs:List (Nat × Va),(eH x v fs).length<=fs.length+1:=by
 intro rr;induction rr with
 | nil=>exact f7 _
 | cons f fs ih=>have:=ih;rw[Ja];split<;>simp<;>lia
noncomputable abbrev Bc(its:Array Va)(n:Nat):Obj:={ cls:=.type "tuple",data:=.seq its n }
noncomputable def kI(kv:Str × Va):Str × Va:=(kv.1,ab kv.2)
noncomputable def cH(F:HF)(a:Ad)(p:Obj->Prop):HF:=λb=>if b=a then some p else F b
theorem aJ(F:HF)(a:Ad)(p:Obj->Prop):cH F a p a=some p:=by simp [cH]
theorem aE{F:HF}{a b:Ad}{p:Obj->Prop}(h:b≠a):cH F a p b=F b:=by simp [cH,h]
noncomputable def fH(t:Ad):Data:=.fields #[.ref t,.none,.none,.none,.bool false,.none]
inductive D7(f:Array Va->Nat->Obj)(h:Heap)(a:Ad)(vs:List Va):Prop
 | mk (vs':List Va) (n:Nat) (e:h.get? a=some (f vs'.toArray n)) (m:vs'.map ab=vs)
inductive Gq(h:Heap)(a:Ad)(kvs:List (Str × Va)):Prop
 | mk (o:Obj) (kvs':List (Str × Va)) (e:h.get? a=some o) (d:o.IsDictOf (strKind pw wd) kvs') (m:kvs'.map kI=kvs)
inductive P9(h:Heap)(d a C:Ad)(fs:List (Nat × Va)):Prop
 | mk (e:h.get? a=some (instObj C d)) (es:List DictEntry) (n:Nat) (g:h.get? d=some (dictOf es n)) (r:gO es fs)
noncomputable def cY(h:Heap)(F:HF)(d a:Ad):PO->Prop
 | .inst C fs=>P9 h d a C fs
 | .dict t kvs=>Gq h a kvs/\(t.2=1->∃ o es,h.get? a=some o/\o.data=.dict es t.1)
 | .list _ vs=>D7 listOf h a vs
 | .tup vs=>D7 Bc h a vs
 | .lam i vs=>∃ o cs,h.get? a=some o/\HX i o cs vs/\∀ q∈cs,∃ p,F q.1=some p/\p=λoc:Obj=>oc.data=.cell (some q.2)
 | .exc C fs=>∃ vs sl,h.get? a=some (⟨.ref C,some d,.fields vs,sl⟩:Obj)/\∃ es n,h.get? d=some (dictOf es n)/\gO es fs
 | .tab es=>h.get? a=some (tabObj (zb es).toArray)
 | .code k=>∃ o vs t,h.get? a=some o/\o.data=.fields vs/\vs[1]?=some (.str (gF k) t)
 | .raw C=>∃ t,h.get? a=some (⟨.ref C,none,fH t,#[]⟩:Obj)
 | .jX C fs=>∃ t,h.get? a=some (⟨.ref C,some d,fH t,#[]⟩:Obj)/\∃ es n,h.get? d=some (dictOf es n)/\gO es fs
noncomputable def PO.eY:PO->Bool
 | .inst ..|.exc ..|.jX ..=>true
 | _=>false
noncomputable def PO.bR:PO->Bool
 | .lam ..=>true
 | _=>false
inductive Hid(base h:Heap)(a:Ad)(p:Obj->Prop):Prop
 | mk (b:base.get? a=none) (o:Obj) (e:h.get? a=some o) (q:p o)
theorem Hid.b{base h:Heap}{a:Ad}{p:Obj->Prop}:Hid base h a p->base.get? a=none
 | ⟨b,_,_,_⟩=>b
theorem Hid.ex{base h:Heap}{a:Ad}{p:Obj->Prop}:Hid base h a p->∃ o,h.get? a=some o/\p o
 | ⟨_,o,e,q⟩=>⟨o,e,q⟩
theorem Hid.of{base h:Heap}{a:Ad}{p:Obj->Prop}(b:base.get? a=none):(∃ o,h.get? a=some o/\p o)->Hid base h a p
 | ⟨o,e,q⟩=>⟨b,o,e,q⟩
structure Sat(base h:Heap)(F:HF)(P:PH)(D:Ad->Ad):Prop where
 stay:base.StaysIn h
 hid:∀ a p,F a=some p->Hid base h a p
 rel:∀ a o,P a=some o->base.get? a=none/\cY h F (D a) a o
 dle:∀ a o,P a=some o->o.eY=true->base.get? (D a)=none
 dn:∀ a o,P a=some o->o.eY=true->P (D a)=none
 di:∀ a o b o',P a=some o->o.eY=true->P b=some o'->o'.eY=true->D a=D b->a=b
 fp:∀ a p,F a=some p->P a=none
 fd:∀ b p,F b=some p->∀ a o,P a=some o->o.eY=true->D a≠b
abbrev gS(h h':Heap):Prop:=∀ b o,h.get? b=some o->h'.get? b=some o
section
variable{base h h':Heap}{F F':HF}{P:PH}{D:Ad->Ad}
theorem cY.self{d a:Ad}{o:PO}(r:cY h F d a o):∃ ob,h.get? a=some ob:=by
 cases o with
 | inst C fs=>obtain⟨r,_⟩:=r;exact⟨_,r⟩
 | dict t kvs=>obtain⟨⟨o,_,r,_⟩,_⟩:=r;exact⟨o,r⟩
 | list t vs=>obtain⟨_,_,r,_⟩:=r;exact⟨_,r⟩
 | tup vs=>obtain⟨_,_,r,_⟩:=r;exact⟨_,r⟩
 | lam i vs=>obtain⟨o,_,r,_⟩:=r;exact⟨o,r⟩
 | exc C fs=>obtain⟨_,_,r,_⟩:=r;exact⟨_,r⟩
 | tab es=>exact⟨_,r⟩
 | code k=>obtain⟨o,_,_,r,_⟩:=r;exact⟨o,r⟩
 | raw C=>obtain⟨_,r⟩:=r;exact⟨_,r⟩
 | jX C fs=>obtain⟨_,r,_⟩:=r;exact⟨_,r⟩
theorem cY.Nd{d a:Ad}{o:PO}(r:cY h F d a o)(hd:o.eY=true):∃ ob,h.get? d=some ob:=by
 cases o<;>first|cases hd|skip
 ·obtain⟨_,es,n,r,_⟩:=r;exact⟨_,r⟩
 ·obtain⟨_,_,_,es,n,r,_⟩:=r;exact⟨_,r⟩
 ·obtain⟨_,_,es,n,r,_⟩:=r;exact⟨_,r⟩
theorem cY.two{d a:Ad}{o:PO}(r:cY h F d a o)(ka:∀ x,h.get? a=some x->h'.get? a=some x)(kd:∀ x,o.eY=true->h.get? d=some x->h'.get? d=some x):cY h' F d a o:=by
 cases o with
 | inst C fs=>obtain⟨h1,es,n,h2,h3⟩:=r;exact⟨ka _ h1,es,n,kd _ rfl h2,h3⟩
 | dict t kvs=>obtain⟨⟨o,kvs',h1,h2,hm⟩,h3⟩:=r;exact⟨⟨o,kvs',ka _ h1,h2,hm⟩,λq=>let ⟨o,es,x,y⟩:=h3 q;⟨o,es,ka _ x,y⟩⟩
 | list t vs=>obtain⟨vs',n,h1,h2⟩:=r;exact⟨vs',n,ka _ h1,h2⟩
 | tup vs=>obtain⟨vs',n,h1,h2⟩:=r;exact⟨vs',n,ka _ h1,h2⟩
 | lam i vs=>obtain⟨o,cs,h1,h2⟩:=r;exact⟨o,cs,ka _ h1,h2⟩
 | exc C fs=>obtain⟨vs,sl,h1,es,n,h2,h3⟩:=r;exact⟨vs,sl,ka _ h1,es,n,kd _ rfl h2,h3⟩
 | tab es=>exact ka _ r
 | code k=>obtain⟨o,vs,t,h1,h2⟩:=r;exact⟨o,vs,t,ka _ h1,h2⟩
 | raw C=>obtain⟨vs,h1⟩:=r;exact⟨vs,ka _ h1⟩
 | jX C fs=>obtain⟨t,h1,es,n,h2,h3⟩:=r;exact⟨t,ka _ h1,es,n,kd _ rfl h2,h3⟩
theorem cY.Th{d a:Ad}{o:PO}(r:cY h F d a o)(k:∀ b p,F b=some p->F' b=some p):cY h F' d a o:=by
 cases o with
 | lam i vs=>obtain⟨o,cs,h1,h2,h3⟩:=r;exact⟨o,cs,h1,h2,λq hq=>let ⟨p,e,hp⟩:=h3 q hq;⟨p,k _ _ e,hp⟩⟩
 | _=>exact r
theorem cY.Oa{d a:Ad}{o:PO}(r:cY h F d a o)(k:o.bR=true->∀(b:Ad) (p:Obj->Prop) (v:Va),F b=some p->p=(λoc:Obj=>oc.data=.cell (some v))->F' b=some p):cY h F' d a o:=by
 cases o with
 | lam i vs=>obtain⟨o,cs,h1,h2,h3⟩:=r;exact⟨o,cs,h1,h2,λq hq=>let ⟨p,e,hp⟩:=h3 q hq;⟨p,k rfl _ _ _ e hp,hp⟩⟩
 | _=>exact r
structure Mv(base:Heap)(F:HF)(x:Ad->Prop)(h h':Heap):Prop where
 stay:base.StaysIn h'
 hid:∀ b p o,F b=some p->¬ x b->h.get? b=some o->p o->∃ o',h'.get? b=some o'/\p o'
 keep:∀ b o,¬ x b->F b=none->base.get? b=none->h.get? b=some o->h'.get? b=some o
theorem Mv.of_keep{x:Ad->Prop}(stay:base.StaysIn h)(k:gS h h'):Mv base F x h h':=⟨λb o e=>k _ _ (stay b o e),λb p o q q e po=>⟨o,k _ _ e,po⟩,λb o q q q e=>k _ _ e⟩
theorem Mv.gY{a:Ad}(stay:base.StaysIn h)(k:∀ b o,b≠a->h.get? b=some o->h'.get? b=some o)(ha:base.get? a=none):Mv base F (·=a) h h':=⟨λb o e=>k _ _ (λq=>by rw[q,ha] at e;cases e) (stay b o e),λb p o j hx e po=>⟨o,k _ _ hx e,po⟩,λb o hx j j e=>k _ _ hx e⟩
def Sk:Ad->Prop:=λq=>False
variable(S:Sat base h F P D)
include S
theorem Sat.fn{a:Ad}{o:PO}(e:P a=some o):F a=none:=by
 cases q:F a with
 | none=>rfl
 | some p=>exact bB ((S.fp a p q).symm.trans e)
theorem Sat.U9{a:Ad}{o:PO}(e:P a=some o)(hd:o.eY=true):F (D a)=none:=by
 cases q:F (D a) with
 | none=>rfl
 | some p=>exact absurd rfl (S.fd _ p q a o e hd)
theorem Sat.fa{a:Ad}{o:PO}(e:P a=some o)(q:Ad)(p:Obj->Prop)(hq:F q=some p):q≠a:=λz=>bB ((S.fp q p hq).symm.trans (z▸e))
theorem Sat.MD{a b:Ad}{o x:PO}(e:P a=some o)(hb:P b=some x)(hx:x.eY=true):D b≠a:=λz=>bB ((S.dn b x hb hx).symm.trans (z▸e))
theorem Sat.Dn{x:Ad->Prop}(k:Mv base F x h h')(nx:∀ b p,F b=some p->¬ x b)(b:Ad)(p:Obj->Prop)(hq:F b=some p):Hid base h' b p:=let ⟨y,o,z,w⟩:=S.hid b p hq;.of y (k.hid b p o hq (nx b p hq) z w)
theorem Sat.xT{x:Ad->Prop}(k:Mv base F x h h'){b:Ad}{o:PO}(nb:¬ x b)(nd:o.eY=true->¬ x (D b))(hb:P b=some o):cY h' F (D b) b o:=(S.rel b o hb).2.two (λj q=>k.keep _ _ nb (S.fn hb) (S.rel b o hb).1 q) λj hx q=>k.keep _ _ (nd hx) (S.U9 hb hx) (S.dle b o hb hx) q
theorem Sat.keep(T:Mv base F Sk h h'):Sat base h' F P D:=⟨T.stay,S.Dn T λq q q=>id,λa o e=>⟨(S.rel a o e).1,S.xT T id (λq=>id) e⟩,S.dle,S.dn,S.di,S.fp,S.fd⟩
theorem Sat.ny{a b:Ad}{p:Obj->Prop}{v:Va}(e:F b=some p)(hp:p=λoc:Obj=>oc.data=.cell (some v))(hl:∀ oc,h.get? a=some oc->∀ v,oc.data≠.cell (some v)):b≠a:=λz=>let ⟨_,oc,eo,po⟩:=S.hid b p e;hl oc (z▸eo) v (by rw[hp] at po;exact po)
theorem Sat.gen{a d:Ad}{o':PO}{D':Ad->Ad}(ea:D' a=d)(stay:base.StaysIn h')(hid:∀ b p,F b=some p->Hid base h' b p)(rel:∀ b x,b≠a->P b=some x->cY h' F (D b) b x)
  (hD:∀ b,b≠a->D' b=D b) (ba:base.get? a=none) (r:cY h' F d a o') (fa:∀ q p,F q=some p->q≠a) (MD:∀ b x,P b=some x->x.eY=true->D b≠a)
  (hd:o'.eY=true->base.get? d=none/\d≠a/\P d=none/\(∀ b x,b≠a->P b=some x->x.eY=true->D b≠d)/\∀ q p,F q=some p->d≠q):Sat base h' F (upd P a o') D':=by
 have at_:∀{b x},upd P a o' b=some x->(b=a/\x=o')\/(b≠a/\P b=some x):=λ{b x} hb=>by
  by_cases q:b=a
  ·rw[q,aA] at hb;exact .inl ⟨q,(kr hb).symm⟩
  ·rw[aD q] at hb;exact .inr ⟨q,hb⟩
 refine⟨stay,hid,λb x hb=>?_,λb x hb hx=>?_,λb x hb hx=>?_,λb x c y hb hx hc hy e=>?_,λq p hq=>(aD (fa q p hq)).trans (S.fp q p hq),λq p hq b x hb hx=>?_⟩
 ·rcases at_ hb with⟨e,x1⟩|⟨n,hb⟩
  ·rw[e,x1,ea];exact⟨ba,r⟩
  ·rw[hD b n];exact⟨(S.rel b x hb).1,rel b x n hb⟩
 ·rcases at_ hb with⟨e,x1⟩|⟨n,hb⟩
  ·rw[e,ea];exact(hd (x1▸hx)).1
  ·rw[hD b n];exact S.dle b x hb hx
 ·rcases at_ hb with⟨e,x1⟩|⟨n,hb⟩
  ·rw[e,ea];exact(aD (hd (x1▸hx)).2.1).trans (hd (x1▸hx)).2.2.1
  ·rw[hD b n];exact(aD (MD b x hb hx)).trans (S.dn b x hb hx)
 ·rcases at_ hb with⟨e1,x1⟩|⟨n,hb⟩<;>rcases at_ hc with⟨e2,x2⟩|⟨n',hc⟩
  ·exact e1.trans e2.symm
  ·rw[e1,ea,hD c n'] at e;exact absurd e.symm ((hd (x1▸hx)).2.2.2.1 c y n' hc hy)
  ·rw[e2,ea,hD b n] at e;exact absurd e ((hd (x2▸hy)).2.2.2.1 b x n hb hx)
  ·rw[hD b n,hD c n'] at e;exact S.di b x c y hb hx hc hy e
 ·rcases at_ hb with⟨e,x1⟩|⟨n,hb⟩
  ·rw[e,ea];exact(hd (x1▸hx)).2.2.2.2 q p hq
  ·rw[hD b n];exact S.fd q p hq b x hb hx
theorem Sat.fresh{a:Ad}(ha:h.get? a=none):P a=none/\(∀ b o,P b=some o->o.eY=true->D b≠a)/\F a=none:=by
 refine⟨?_,?_,?_⟩
 ·cases q:P a with
  | none=>rfl
  | some o=>obtain⟨ob,r⟩:=(S.rel a o q).2.self;rw[ha] at r;cases r
 ·rintro b o q hd rfl
  obtain⟨ob,r⟩:=(S.rel b o q).2.Nd hd;rw[ha] at r;cases r
 ·cases q:F a with
  | none=>rfl
  | some p=>obtain⟨_,o,r,_⟩:=S.hid a p q;rw[ha] at r;cases r
theorem Sat.alloc{a:Ad}{o:PO}(k:Mv base F Sk h h')(ha:h.get? a=none)(ba:base.get? a=none)(hd:o.eY=false)(r:cY h' F (D a) a o):Sat base h' F (upd P a o) D:=by obtain⟨f1,f2,f3⟩:=S.fresh ha;have T:=S.keep k;exact S.gen rfl T.stay T.hid (λb x j hb=>(T.rel b x hb).2) (λj j=>rfl) ba r (λq p hq z=>bB (f3.symm.trans (z▸hq))) f2 λq=>lz (q.symm.trans hd)
theorem Sat.BF{a d:Ad}{o:PO}(k:Mv base F Sk h h')(ha:h.get? a=none)(hda:h.get? d=none)(ba:base.get? a=none)(bd:base.get? d=none)(hne:a≠d)(r:cY h' F d a o):
  Sat base h' F (upd P a o) (λb=>if b=a then d else D b):=by obtain⟨f1,f2,f3⟩:=S.fresh ha;obtain⟨g1,g2,g3⟩:=S.fresh hda;have T:=S.keep k;exact S.gen (ai rfl) T.stay T.hid (λb x j hb=>(T.rel b x hb).2) (λb n=>aa n) ba r (λq p hq z=>bB (f3.symm.trans (z▸hq))) f2 λj=>⟨bd,gz hne,g1,λb x j=>g2 b x,λq p hq z=>bB (g3.symm.trans (z▸hq))⟩
theorem Sat.set{a:Ad}{o o':PO}(k:Mv base F (·=a) h h')(ho:P a=some o)(hd:o.eY=false)(hd':o'.eY=false)
  (r:cY h' F (D a) a o'):Sat base h' F (upd P a o') D:=S.gen rfl k.stay (S.Dn k (S.fa ho)) (λb x n hb=>S.xT k n (λhx=>S.MD ho hb hx) hb) (λj j=>rfl) (S.rel a o ho).1 r (S.fa ho) (λb x=>S.MD ho) λq=>lz (q.symm.trans hd')
theorem Sat.Jj{a:Ad}{o o':PO}(k:Mv base F (·=D a) h h')(ho:P a=some o)(hd:o.eY=true)
  (r:cY h' F (D a) a o') (hd':o'.eY=true):Sat base h' F (upd P a o') D:=S.gen rfl k.stay (S.Dn k λb p hq z=>S.fd b p hq a o ho hd z.symm) (λb x n hb=>S.xT k (λz=>bB ((S.dn a o ho hd).symm.trans (z▸hb))) (λhx z=>n (S.di b x a o hb hx ho hd z)) hb) (λj j=>rfl) (S.rel a o ho).1 r (S.fa ho) (λb x=>S.MD ho)
  λj=>⟨S.dle a o ho hd,S.MD ho ho hd,S.dn a o ho hd,λb x n hb hx z=>n (S.di b x a o hb hx ho hd z),λq p hq=>S.fd q p hq a o ho hd⟩
theorem Sat.QE{a d:Ad}{o o':PO}(k:Mv base F (·=a) h h')(ho:P a=some o)(hd:o.eY=false)(hda:h.get? d=none)(bd:base.get? d=none)
  (r:cY h' F d a o') (hd':o'.eY=true):Sat base h' F (upd P a o') (λb=>if b=a then d else D b):=by obtain⟨g1,g2,g3⟩:=S.fresh hda;exact S.gen (ai rfl) k.stay (S.Dn k (S.fa ho)) (λb x n hb=>S.xT k n (λhx=>S.MD ho hb hx) hb) (λb n=>aa n) (S.rel a o ho).1 r (S.fa ho) (λb x=>S.MD ho) λj=>⟨bd,λz=>bB (g1.symm.trans (z▸ho)),g1,λb x j=>g2 b x,λq p hq z=>bB (g3.symm.trans (z▸hq))⟩
theorem Sat.forget{P':PH}(k:∀ a o,P' a=some o->P a=some o):Sat base h F P' D:=by
 have kn:∀ a,P a=none->P' a=none:=λa h=>by
  cases q:P' a with
  | none=>rfl
  | some o=>rw[k a o q] at h;cases h
 exact⟨S.stay,S.hid,λa o h=>S.rel a o (k a o h),λa o h=>S.dle a o (k a o h),λa o h hd=>kn _ (S.dn a o (k a o h) hd),λa o b o' h hd h' hd' e=>S.di a o b o' (k a o h) hd (k b o' h') hd' e,λa p hq=>kn _ (S.fp a p hq),λb p hq a o h hd=>S.fd b p hq a o (k a o h) hd⟩
theorem Sat.hides(k:Mv base F Sk h h')(up:∀ a p,F a=some p->F' a=some p)
  (new:∀ a p,F' a=some p->F a=some p\/(h.get? a=none/\base.get? a=none/\∃ o,h'.get? a=some o/\p o)):Sat base h' F' P D:=by
 have T:=S.keep k;refine⟨T.stay,λb q hq=>?_,λb x hb=>⟨(T.rel b x hb).1,(T.rel b x hb).2.Th up⟩,S.dle,S.dn,S.di,λb q hq=>?_,λb q hq c x hc hx=>?_⟩
 ·rcases new b q hq with e|⟨_,e1,e2⟩
  ·exact T.hid b q e
  ·exact .of e1 e2
 ·rcases new b q hq with e|⟨e,_⟩
  ·exact S.fp b q e
  ·exact(S.fresh e).1
 ·rcases new b q hq with e|⟨e,_⟩
  ·exact S.fd b q e c x hc hx
  ·exact(S.fresh e).2.1 c x hc hx
theorem Sat.zk{a:Ad}{p p':Obj->Prop}{ob:Obj}(k:Mv base F (·=a) h h')(ha:F a=some p)(e:h'.get? a=some ob)(hp:p' ob)
  (hl:(∀ b o,P b=some o->o.bR=false)\/∀ oc,h.get? a=some oc->∀ v,oc.data≠.cell (some v)):Sat base h' (cH F a p') P D:=by
 have cs:∀{b q},cH F a p' b=some q->(b=a/\q=p')\/(b≠a/\F b=some q):=λ{b q} hq=>by
  by_cases z:b=a
  ·rw[z,aJ] at hq;exact .inl ⟨z,(kr hq).symm⟩
  ·rw[aE z] at hq;exact .inr ⟨z,hq⟩
 refine⟨k.stay,λb q hq=>?_,λb x hb=>⟨(S.rel b x hb).1,(S.xT k (S.fa hb a p ha).symm (λhx=>S.fd a p ha b x hb hx) hb).Oa λil b' p v e hp=>(aE (hl.elim (λw=>lz (il.symm.trans (w b x hb))) λw=>S.ny e hp w)).trans e⟩,S.dle,S.dn,S.di,λb q hq=>?_,λb q hq c x hc hx=>?_⟩
 ·rcases cs hq with⟨z,w⟩|⟨z,hq⟩
  ·rw[z,w];exact⟨(S.hid a p ha).b,ob,e,hp⟩
  ·let ⟨x,o,y,w⟩:=S.hid b q hq;exact .of x (k.hid b q o hq z y w)
 ·rcases cs hq with⟨z,w⟩|⟨z,hq⟩
  ·rw[z];exact S.fp a p ha
  ·exact S.fp b q hq
 ·rcases cs hq with⟨z,w⟩|⟨z,hq⟩
  ·rw[z];exact S.fd a p ha c x hc hx
  ·exact S.fd b q hq c x hc hx
theorem Sat.CL(k:∀ b p,F' b=some p->F b=some p)(hl:(∀ b o,P b=some o->o.bR=false)\/∀ b p,F b=some p->(∃ oc,h.get? b=some oc/\∃ v,oc.data=.cell (some v))->F' b=some p):Sat base h F' P D:=⟨S.stay,λb q hq=>S.hid b q (k b q hq),λb x hb=>⟨(S.rel b x hb).1,(S.rel b x hb).2.Oa λil b' p v e hp=>hl.elim (λw=>lz (il.symm.trans (w b x hb))) λw=>let ⟨_,oc,eo,po⟩:=S.hid b' p e;w b' p e ⟨oc,eo,v,by rw[hp] at po;exact po⟩⟩,S.dle,S.dn,S.di,λb q hq=>S.fp b q (k b q hq),λb q hq c x hc hx=>S.fd b q (k b q hq) c x hc hx⟩
end
noncomputable def iD:List (Str × Va):=([("BasicObject",.none),("Object",.str "BasicObject" 0),("Module",.str "Object" 0),("Class",.str "Module" 0),("Kernel",.none),("Comparable",.none),("Enumerable",.none),("NilClass",.str "Object" 0),("TrueClass",.str "Object" 0),("FalseClass",.str "Object" 0),("Numeric",.str "Object" 0),("Integer",.str "Numeric" 0)]:List (Str × Va))++([("String",.str "Object" 0),("Symbol",.str "Object" 0),("Array",.str "Object" 0),("Hash",.str "Object" 0),("Range",.str "Object" 0),("Proc",.str "Object" 0),("Fiber",.str "Object" 0),("Exception",.str "Object" 0),("ScriptError",.str "Exception" 0),("NotImplementedError",.str "ScriptError" 0),("SystemStackError",.str "Exception" 0),("StandardError",.str "Exception" 0)]:List (Str × Va))++([("ArgumentError",.str "StandardError" 0),("UncaughtThrowError",.str "ArgumentError" 0),("FiberError",.str "StandardError" 0),("IndexError",.str "StandardError" 0),("KeyError",.str "IndexError" 0),("StopIteration",.str "IndexError" 0),("LocalJumpError",.str "StandardError" 0),("NameError",.str "StandardError" 0),("NoMethodError",.str "NameError" 0),("NoMatchingPatternError",.str "StandardError" 0)]:List (Str × Va))++([("NoMatchingPatternKeyError",.str "NoMatchingPatternError" 0),("RangeError",.str "StandardError" 0),("RuntimeError",.str "StandardError" 0),("FrozenError",.str "RuntimeError" 0),("TypeError",.str "StandardError" 0),("ZeroDivisionError",.str "StandardError" 0)]:List (Str × Va))
noncomputable def nQ(a:Ad):Op PO:=
 if a=788 then some (.tup [.str "Kernel" 0,.str "Comparable" 0,.str "Enumerable" 0])
 else if a=789 then some (.dict (0,0) iD)
 else if a=792 then some (.dict (0,0) [("Object",.ref 793),("Numeric",.ref 794),("String",.ref 795),("Symbol",.ref 796),("Array",.ref 797),("Hash",.ref 798),("Range",.ref 799)])
 else if a=793 then some (.tup [.str "Kernel" 0])
 else if a=794\/a=795\/a=796 then some (.tup [.str "Comparable" 0])
 else if a=797\/a=798\/a=799 then some (.tup [.str "Enumerable" 0])
 else if a=800 then some (.tup [.str "NilClass" 0,.str "TrueClass" 0,.str "FalseClass" 0,.str "Integer" 0,.str "Numeric" 0,.str "Symbol" 0])
 else if a=vQ then some (.list (0,0) (IK.map λi=>.int i 0))
 else none
end
section
structure Fx where
 env:Env
 aZ:Env
 A:Around
 base:Heap
 mg:Str->Op Va
 mb:Str->Op Va
 outer:List Env
 F:HF
 os:OsState
noncomputable abbrev OH:List Str:=looseW qv jS
structure bP(n:Nat)(A:Around):Prop where
 dp:A.depth+n<=990
 un:A.units+10*n<=9890
def dH(m:Str->Op Va):Obj->Prop:=λo=>LCg.NsObj o m
def pF(p:Obj->Prop):Prop:=∀ o,p o->∀ v,o.data≠.cell (some v)
theorem dU{m:Str->Op Va}:pF (dH m):=λo h v q=>by obtain⟨es,ep,hd,_⟩:=h;rw[hd] at q;cases q
def eS(v:Op Va):Obj->Prop:=λo=>o.data=.cell v
structure PZ(base:Heap)(mg:Str->Op Va):Prop where
 GX:∀ k,CodeHd base (eZ k) (dO k)
 UZ:∃ bm ob,mg "__builtins__"=some (.ref bm)/\bm≠builtinsNs/\base.get? bm=some ob/\ob.cls=.type "module"/\ob.dict=some builtinsNs/\ob.data=.plain
structure bM(c:Fx):Prop where
 hA:c.A.frames=some (c.aZ::c.outer)
 hh:c.A.handled=none
 knd:c.env.scope.kind=.function
 qS:c.env.globals=mainGlobals
 JT:c.env.builtins=builtinsNs
 nd:(c.env.scope.names.map (·.1)).Nodup
 nF:c.F c.env.locals=none
 cF:c.aZ=c.env->∀ x a,c.env.cells.lookup x=some a->c.env.scope.names.lookup x=some .cell->c.F a=none
 cI:∀ x y a,c.env.cells.lookup x=some a->c.env.cells.lookup y=some a->x=y
 fk:c.aZ.scope.kind≠.module
 X:K.In c.base
 top:TopRead qv OH c.mg c.mb c.base
 big:∃ o,c.base.get? sysModules=some o
 st:∀ a o,nQ a=some o->cY c.base (λq=>none) 0 a o
 frs:∀ e∈c.outer,e.scope.kind≠.module/\∃ Li m,e.frame=some Li/\c.F Li=some (dH m)
 cA:∀ x,c.env.scope.names.lookup x=some .cell->∃ a,c.env.cells.lookup x=some a
 fl:c.aZ.frame=some c.aZ.locals
 NR:∀ k,c.env.scope.names.map (·.1)=gR k->c.env.code=.ref (eZ k)/\c.env.qual++"<lambda>"=gF k
 Nz:c.base.objs.size<=c.env.locals
 GX:PZ c.base c.mg
def Bound(env:Env)(G:HF)(m:Str->Op Va)(x:Str)(k:NameKind)(v:Va):Prop:=(k=.local/\∃ v',m x=some v'/\ab v'=v)\/((k=.cell\/k=.free)/\∃ a v',env.cells.lookup x=some a/\G a=some (eS (some v'))/\ab v'=v)
def lq(env:Env)(G:HF)(m:Str->Op Va)(l:Lv):Prop:=∀(i:Nat) (v:Va),l[i]?=some (some v)->∃ x k,env.scope.names[i]?=some (x,k)/\Bound env G m x k v
structure lT(c:Fx)(l:Lv)(P:PH)(s:Sh)(m:Str->Op Va)(G:HF)(D:Ad->Ad):Prop where
 ext:∀ a p,c.F a=some p->G a=some p
 loc:G c.env.locals=some (dH m)
 nM:∃ Lf mf,c.aZ.frame=some Lf/\G Lf=some (dH mf)
 nZ:∀ x a,c.env.cells.lookup x=some a->∃ v,G a=some (eS v)
 own:∀ a p,G a=some p->c.F a=some p\/pF p\/((∃ v,p=eS v)/\∃ x,c.env.cells.lookup x=some a/\c.env.scope.names.lookup x=some .cell)
 sat:Sat c.base s.heap G P D
 lv:lq c.env G m l
 gens:s.gens=#[]
 os:s.os=c.os
inductive St(c:Fx)(l:Lv)(P:PH)(s:Sh):Prop
 | mk (m:Str->Op Va) (G:HF) (D:Ad->Ad) (S:lT c l P s m G D)
variable{c:Fx}{l l':Lv}{P P':PH}{s s':Sh}
theorem Sat.lt{base h:Heap}{F:HF}{P:PH}{D:Ad->Ad}(S:Sat base h F P D){a:Ad}(e:h.objs.size<=a):h.get? a=none/\base.get? a=none:=by
 suffices q:h.get? a=none by
  refine⟨q,?_⟩;cases z:base.get? a with
  | none=>rfl
  | some o=>have:=S.stay a o z;rw[q] at this;cases this
 cases q:h.get? a with
 | none=>rfl
 | some o=>exact absurd (fy q) (Nat.not_lt.mpr e)
structure Step(s s':Sh):Prop where
 le:s.heap.objs.size<=s'.heap.objs.size
 g:s'.gens=s.gens
 o:s'.os=s.os
theorem Step.toks{s:Sh}{t:Nat}:Step s { s with toks:=t }:=⟨f7 _,rfl,rfl⟩
theorem St.keep(S:St c l P s)(k:gS s.heap s'.heap)(t:Step s s'):St c l P s':=by obtain⟨m,G,D,h⟩:=S;exact⟨m,G,D,h.ext,h.loc,h.nM,h.nZ,h.own,h.sat.keep (.of_keep h.sat.stay k),h.lv,t.g.trans h.gens,t.o.trans h.os⟩
theorem St.alloc(S:St c l P s){a:Ad}{o:PO}(k:gS s.heap s'.heap)(t:Step s s')(ha:s.heap.objs.size<=a)(hd:o.eY=false)
  (r:∀ F d,cY s'.heap F d a o):P a=none/\St c l (upd P a o) s':=by obtain⟨m,G,D,h⟩:=S;obtain⟨e1,e2⟩:=h.sat.lt ha;exact⟨(h.sat.fresh e1).1,m,G,D,h.ext,h.loc,h.nM,h.nZ,h.own,h.sat.alloc (.of_keep h.sat.stay k) e1 e2 hd (r _ _),h.lv,t.g.trans h.gens,t.o.trans h.os⟩
theorem St.BF(S:St c l P s){a d:Ad}{o:PO}(k:gS s.heap s'.heap)(t:Step s s')(ha:s.heap.objs.size<=a)(hd:s.heap.objs.size<=d)(hne:a≠d)
  (r:∀ F,cY s'.heap F d a o):P a=none/\St c l (upd P a o) s':=by obtain⟨m,G,D,h⟩:=S;obtain⟨e1,e2⟩:=h.sat.lt ha;obtain⟨d1,d2⟩:=h.sat.lt hd;exact⟨(h.sat.fresh e1).1,m,G,_,h.ext,h.loc,h.nM,h.nZ,h.own,h.sat.BF (.of_keep h.sat.stay k) e1 d1 e2 d2 hne (r _),h.lv,t.g.trans h.gens,t.o.trans h.os⟩
theorem St.set(S:St c l P s){a:Ad}{o o':PO}(k:∀ b ob,b≠a->s.heap.get? b=some ob->s'.heap.get? b=some ob)(t:Step s s')(ho:P a=some o)(hd:o.eY=false)(hd':o'.eY=false)
  (r:∀ F d,cY s'.heap F d a o'):St c l (upd P a o') s':=by obtain⟨m,G,D,h⟩:=S;exact⟨m,G,D,h.ext,h.loc,h.nM,h.nZ,h.own,h.sat.set (.gY h.sat.stay k (h.sat.rel _ _ ho).1) ho hd hd' (r _ _),h.lv,t.g.trans h.gens,t.o.trans h.os⟩
theorem St.forget(S:St c l P s)(k:∀ a o,P' a=some o->P a=some o):St c l P' s:=by obtain⟨m,G,D,h⟩:=S;exact⟨m,G,D,h.ext,h.loc,h.nM,h.nZ,h.own,h.sat.forget k,h.lv,h.gens,h.os⟩
theorem lq.nil{env:Env}{G:HF}{m:Str->Op Va}:lq env G m []:=λi v e=>by simp at e
theorem uX{α β:Type}[BEq α][LawfulBEq α]{x:α}{k:β}{l:List (α × β)}(nd:(l.map (·.1)).Nodup)(h:(x,k)∈l):l.lookup x=some k:=by
 induction l with
 | nil=>exact absurd h gk
 | cons q r ih=>
  have n:=dj nd;rw[f6];rcases ku h with e|e
  ·subst e;rw[bg]
  ·rw[beq_eq_false_iff_ne.mpr λz:x=q.1=>n.1 (List.mem_map.mpr ⟨_,e,z⟩)]
   exact ih n.2 e
theorem aT{β:Type}{l:List (Str × β)}{i:Nat}{x:Str}{k:β}(nd:(l.map (·.1)).Nodup)(h:l[i]?=some (x,k)):l.lookup x=some k:=uX nd (g4 h)
theorem pX{β:Type}:∀{l:List (Str × β)} {i j:Nat} {x:Str} {k k':β},(l.map (·.1)).Nodup->l[i]?=some (x,k)->l[j]?=some (x,k')->i=j:=by
 intro l i j x k k' nd hi hj;have h1:(l.map (·.1))[i]?=some x:=by simp [hi]
 have h2:(l.map (·.1))[j]?=some x:=by simp [hj]
 have li:i<(l.map (·.1)).length:=(List.getElem?_eq_some_iff.mp h1).1;have lj:j<(l.map (·.1)).length:=(List.getElem?_eq_some_iff.mp h2).1;exact(List.getElem_inj nd).mp ((List.getElem?_eq_some_iff.mp h1).2.trans (List.getElem?_eq_some_iff.mp h2).2.symm)
variable{M:Model}{A:Around}{E:VS}{i:Nat}{x:Str}{k:NameKind}{v:Va}{pos:Pos}
theorem St.load{Q:VS}(S:St c l P s)(O:bM c)(hx:c.env.scope.names[i]?=some (x,k))(hl:l[i]?=some (some v))(hd:(x==("__debug__":Str))=false)(hn:(x==("__classdict__":Str))=false)
  (h:∀ v',ab v'=v->Q v' s):wpAny M A (eval (.Name x pos) c.env) Q E s:=by
 obtain⟨m,G,D,S⟩:=S;obtain⟨x',k',hx',b⟩:=S.lv i v hl;rw[hx] at hx';cases hx';have hk:=aT O.nd hx;rcases b with⟨rfl,v',e,q⟩|⟨hc,a,v',ea,ga,q⟩
 ·obtain⟨_,o,eo,po⟩:=S.sat.hid _ _ S.loc
  exact wpAny_Name (wpAny_loadName_local O.knd hk (po.ns eo) e (h v' q)) hd
 ·obtain⟨_,o,eo,po⟩:=S.sat.hid _ _ ga
  rcases hc with rfl|rfl
  ·exact wpAny_Name (wpAny_loadName_cell O.knd hk ea ⟨o,eo,po⟩ (h v' q)) hd
  ·exact wpAny_Name (wpAny_loadName_free O.knd hk ea ⟨o,eo,po⟩ (h v' q) hn) hd
theorem Jk{env:Env}{G G':HF}{m m':Str->Op Va}(L:lq env G m l)(nd:(env.scope.names.map (·.1)).Nodup)(hx:env.scope.names[i]?=some (x,k))(hb:Bound env G' m' x k (ab v))
  (hm:∀ y,y≠x->m' y=m y) (hG:∀ y a v',y≠x->env.cells.lookup y=some a->G a=some (eS (some v'))->G' a=some (eS (some v'))):lq env G' m' (l.set i (some (ab v))):=by
 intro j u hj;by_cases hij:i=j
 ·subst hij
  rw[List.getElem?_set,ai rfl] at hj;cases (wu hj).2;exact⟨x,k,hx,hb⟩
 ·rw[List.getElem?_set_ne hij] at hj
  obtain⟨y,k',hy,b⟩:=L j u hj;have hne:y≠x:=by rintro rfl;exact hij (pX nd hx hy)
  refine⟨y,k',hy,?_⟩;rcases b with⟨rfl,v',e,q⟩|⟨hc,a,v',ea,ga,q⟩
  ·exact .inl ⟨rfl,v',(hm y hne).trans e,q⟩
  ·exact .inr ⟨hc,a,v',ea,hG y a v' hne ea ga,q⟩
theorem iZ{h:Heap}{C:Ad}{m:Str->Op Va}(x:h.Ns C m):∃ o,h.get? C=some o/\dH m o:=LCg.ns_obj x
theorem oU{o:Obj}{m:Str->Op Va}(h:dH m o)(v:Op Va):¬ eS v o:=by obtain⟨es,ep,hd,_⟩:=h;intro q;unfold eS at q;rw[hd] at q;cases q
theorem BB{base h:Heap}{G:HF}{D:Ad->Ad}{a b:Ad}{m:Str->Op Va}{v:Op Va}(S:Sat base h G P D)(ha:G a=some (dH m))(hb:G b=some (eS v)):b≠a:=by
 rintro rfl
 obtain⟨_,o,eo,po⟩:=S.hid _ _ ha;obtain⟨_,o',eo',po'⟩:=S.hid _ _ hb;rw[eo] at eo';obtain rfl:=kr eo';exact oU po v po'
theorem tO{h h':Heap}{a:Ad}(x:Heap.SameBut a h h'):h'.objs.size=h.objs.size:=x.1
theorem St.store{Q:Unit->Sh->Prop}(S:St c l P s)(O:bM c)(hx:c.env.scope.names[i]?=some (x,.local))(v:Va)
  (h:∀ s',St c (l.set i (some (ab v))) P s'->Q ⟨⟩ s'):wpAny M A (storeName c.env x v) Q E s:=by
 obtain⟨m,G,D,S⟩:=S;have hk:=aT O.nd hx;obtain⟨_,o,eo,po⟩:=S.sat.hid _ _ S.loc;refine wpAny_storeName_local hk (po.ns eo) (λh' hn hs=>h _ ?_) (by rw[O.knd];rfl);obtain⟨o',eo',po'⟩:=iZ hn;have kb:∀ b ob,b≠c.env.locals->s.heap.get? b=some ob->h'.get? b=some ob:=λb ob hb e=>(hs.2 b hb).trans e;refine⟨_,cH G c.env.locals (dH λy=>if y=x then some v else m y),D,λa p e=>?_,aJ ..,?_,λy a e=>?_,λa p e=>?_,?_,?_,S.gens,S.os⟩
 ·rw[aE];exact S.ext a p e
  rintro rfl;rw[O.nF] at e;cases e
 ·obtain⟨Lf,mf,e1,e2⟩:=S.nM
  by_cases q:Lf=c.env.locals
  ·exact⟨Lf,_,e1,by rw[q];exact aJ ..⟩
  ·exact⟨Lf,mf,e1,by rw[aE q];exact e2⟩
 ·obtain⟨u,e⟩:=S.nZ y a e
  exact⟨u,by rw[aE (BB S.sat S.loc e)];exact e⟩
 ·by_cases q:a=c.env.locals
  ·subst q;rw[aJ] at e;obtain rfl:=kr e;exact .inr (.inl dU)
  ·rw[aE q] at e;exact S.own a p e
 ·refine S.sat.zk (.gY S.sat.stay kb (S.sat.hid _ _ S.loc).b) S.loc eo' po' (.inr λoc e u q=>?_)
  rw[eo] at e;obtain rfl:=kr e;exact oU po (some u) q
 ·exact Jk S.lv O.nd hx (.inl ⟨rfl,v,by simp,rfl⟩) (λy hy=>by simp [hy]) λy a v' hy ea ga=>by rw[aE (BB S.sat S.loc ga)];exact ga
noncomputable def bJ(P:PH):PH:=λa=>(P a).bind λo=>if o.bR then none else some o
theorem gE{a:Ad}{o:PO}(h:bJ P a=some o):P a=some o/\o.bR=false:=aN h λp hp e=>by
 cases q:p.bR with
 | true=>rw[q] at e;exact bB e
 | false=>rw[q] at e;have e:=kr e;subst e;exact⟨hp,q⟩
set_option tactic.hygienic true in
theorem St.FN{Q:Unit->Sh->Prop}(S:St c l P s)(O:bM c)(he:c.aZ=c.env)(hx:c.env.scope.names[i]?=some (x,.cell)){a:Ad}(ha:c.env.cells.lookup x=some a)(v:Va)
  (h:∀ s',St c (l.set i (some (ab v))) (bJ P) s'->Q ⟨⟩ s'):wpAny M A (storeName c.env x v) Q E s:=by
 obtain⟨m,G,D,S⟩:=S;have hk:=aT O.nd hx;obtain⟨u,ga⟩:=S.nZ x a ha;obtain⟨_,o,eo,po⟩:=S.sat.hid _ _ ga;refine wpAny_storeName_cell O.knd hk ha ⟨o,eo,po⟩ λh' hv hs=>h _ ?_;obtain⟨o',eo',po'⟩:=hv;have kb:∀ b ob,b≠a->s.heap.get? b=some ob->h'.get? b=some ob:=λb ob hb e=>(hs.2 b hb).trans e;have la:=BB S.sat S.loc ga;have sat':=S.sat.forget (P':=bJ P) λj j e=>(gE e).1;refine⟨m,cH G a (eS (some v)),D,λb p e=>?_,by rw[aE (gz la)];exact S.loc,?_,λy b e=>?_,λb p e=>?_,?_,?_,S.gens,S.os⟩
 ·rw[aE];exact S.ext b p e
  rintro rfl;rw[O.cF he x b ha hk] at e;cases e
 ·obtain⟨Lf,mf,e1,e2⟩:=S.nM
  exact⟨Lf,mf,e1,by rw[aE (gz (BB S.sat e2 ga))];exact e2⟩
 ·by_cases q:b=a
  ·subst q;exact⟨_,aJ ..⟩
  ·rw[aE q];exact S.nZ y b e
 ·by_cases q:b=a
  ·subst q;rw[aJ] at e;obtain rfl:=kr e;exact .inr (.inr ⟨⟨_,rfl⟩,x,ha,hk⟩)
  ·rw[aE q] at e;exact S.own b p e
 ·exact sat'.zk (.gY S.sat.stay kb (S.sat.hid _ _ ga).b) ga eo' po' (.inl λb o e=>(gE e).2)
 ·refine Jk S.lv O.nd hx (.inr ⟨.inl rfl,a,v,ha,aJ ..,rfl⟩) (λj j=>rfl) λy b v' hy eb gb=>?_
  rw[aE];exact gb
  rintro rfl;exact hy (O.cI _ _ _ eb ha)
end
section
inductive JZ(h B:Heap)(e:Ad)(fl:Va):Prop
 | mk (oe:Obj) (vs:Array Va) (T:Ad) (oT:Obj) (ts:Array Va) (a:h.get? e=some oe) (b:oe.data=.fields vs) (c:vs[1]?=some (.ref T)) (d:B.get? T=none) (n:T≠e) (f:h.get? T=some oT) (g:oT.data=.fields ts) (k:ts[3]?=some fl)
structure DY(e:Ad)(h h':Heap):Prop where
 up:∀ b o,h.get? b=some o->(∀ vs,o.data≠.fields vs)->∃ sl,h'.get? b=some { o with slots:=sl }
 ex:∀ oe vs,h.get? e=some oe->oe.data=.fields vs->∃ vs',h'.get? e=some { oe with data:=.fields vs' }
theorem DY.trans{e:Ad}{h h₁ bA:Heap}(x:DY e h h₁)(y:DY e h₁ bA):DY e h bA:=⟨λb o q hn=>let ⟨_,Pc⟩:=x.up b o q hn;let ⟨sl,Pd⟩:=y.up b _ Pc hn;⟨sl,Pd⟩,λoe vs q hd=>let ⟨_,Pc⟩:=x.ex oe vs q hd;let ⟨Sg,Pd⟩:=y.ex _ _ Pc rfl;⟨Sg,Pd⟩⟩
structure D3(B:Heap)(l:List Env)(e:Ad)(fl:Va)(h:Heap):Prop where
 st:B.StaysIn h
 en:B.get? e=none
 ff:h.FunFrames B l
 tr:JZ h B e fl
theorem yP{o:Obj}{vs:Array Va}(hd:o.data=.fields vs)(f:Array Va->Array Va):Obj.mapFields f o={ o with data:=.fields (f vs) }:=by obtain⟨c,d,dt,sl⟩:=o;subst hd;rfl
variable{M:Model}{A:Around}{E:VS}{s:Sh}{B:Heap}{l:List Env}{env:Env}{outer:List Env}{L e:Ad}{oe:Obj}{vs:Array Va}
theorem xO{head:Va}{hadNext:Bool}{Q:Unit->Sh->Prop}(hfr:A.frames=some (env::outer))(hl:s.heap.FunFrames B (env::outer))(hf:env.frame=some L)
  (he:s.heap.get? e=some oe) (hkb:B.StaysIn s.heap) (hen:B.get? e=none) (hd:oe.data=.fields vs) (hsz:1<vs.size)
  (h:∀ h',D3 B (env::outer) e (rawInt L) h'->DY e s.heap h'->Q ⟨⟩ { s with heap:=h' }):
  wpAny M A (do let a<-frameOf env;let pl<-entryPlaceOf L hadNext;let b<-EntryCells.newEntry head a .none (rawInt L) .none pl;setField (.ref e) 1 b) Q E s:=by
 have hene:e∉(env::outer).filterMap (·.frame):=λhm=>by obtain⟨_,o,ho,hnf⟩:=hl.mem hm;rw[he] at ho;injection ho with ho;subst ho;exact hnf vs hd
 refine af (wpAny_frameOf_fun hfr hl hf λh₁ Dp=>?_);refine af (wpAny_entryPlaceOf λpl hpl=>?_);unfold EntryCells.newEntry newFields;refine af (wpAny_newObj_type ?_ (hpl.sizeOk5 _ _ _ _ _));have MO:h₁.get? e=some oe:=(Dp.2.1 e hene).trans he;have MS:B.StaysIn h₁:=λb o hbo=>(Dp.2.1 b λhm=>by rw[(hl.mem hm).1] at hbo;cases hbo).trans (hkb b o hbo);generalize htb:({ cls:=.type "traceback",dict:=none,data:=.fields ([head,.ref L,.none,rawInt L,.none]++(if pl.isEmpty then List.replicate 6 Value.none else pl)).toArray }:Obj)=tb;have MP:=ek (h:=h₁) tb MO;refine wpAny_setField MP hd hsz (h _ ?_ ?_)
 all_goals
  have hTe:h₁.objs.size≠e:=jr (fy MO);have MK:=Obj.data_mapFields hd (·.setIfInBounds 1 (Value.ref h₁.objs.size));have MQ:=g9 (Obj.mapFields (·.setIfInBounds 1 (Value.ref h₁.objs.size))) MP (Obj.isFreed_of_fields MK);have QS:=(ia (h₁.push tb) (Obj.mapFields (·.setIfInBounds 1 (Value.ref h₁.objs.size))) (gz hTe)).trans (fj h₁ (by subst htb;rfl));have keep:∀ b o,b≠e->h₁.get? b=some o->((h₁.push tb).update e (Obj.mapFields (·.setIfInBounds 1 (Value.ref h₁.objs.size)))).get? b=some o:=λb o hbe hb=>by rw[ia _ _ (gz hbe)];exact ek _ hb
  have noRecord:∀ b o,s.heap.get? b=some o->(∀ vs,o.data≠.fields vs)->b≠e:=λb o hb hnf q=>by rw[q,he] at hb;injection hb with hb;subst hb;exact hnf vs hd
 ·refine⟨λb o hbo=>keep b o (λq=>by rw[q,hen] at hbo;cases hbo) (MS b o hbo),hen,hl.of_keeps λb o hb hnf=>?_,?_⟩
  ·obtain⟨sl,hs⟩:=Dp.2.2 b o hb
   exact⟨_,keep b _ (noRecord b o hb hnf) hs,rfl⟩
  ·exact⟨_,_,h₁.objs.size,_,_,MQ,MK,by simp [hsz],MS.fresh,hTe,QS,by subst htb;rfl,by first|(simp;done)|(rcases hpl with rfl|⟨_,_,_,_,_,_,_,rfl⟩<;>simp)⟩
 ·refine⟨λb o hb hnf=>?_,λoe' vs' q hq=>?_⟩
  ·obtain⟨sl,hs⟩:=Dp.2.2 b o hb
   exact⟨sl,keep b _ (noRecord b o hb hnf) hs⟩
  ·rw[he] at q;obtain rfl:=kr q
   exact⟨_,by rw[MQ,yP hd]⟩
theorem kX{fl:Va}{f:Op Ad}{Q:Unit->Sh->Prop}(F:D3 B l e fl s.heap)
  (h:∀ h',D3 B l e (f.elim .none λx=>rawInt x) h'->DY e s.heap h'->Q ⟨⟩ { s with heap:=h' }):wpAny M A (setFlight (.ref e) f) Q E s:=by
 obtain⟨hkb,hen,hl,oe,vs,T,oT,ts,he,hd,h1,hnT,hTe,hT,hdT,h3⟩:=F;have hsz3:3<ts.size:=(Array.getElem?_eq_some_iff.mp h3).1;have other:∀ b,b≠T->(s.heap.update T (Obj.mapFields (·.setIfInBounds 3 (f.elim Value.none λf=>rawInt f)))).get? b=s.heap.get? b:=λb hb=>ia _ _ (gz hb);have noRecord:∀ b o,s.heap.get? b=some o->(∀ vs,o.data≠.fields vs)->b≠T:=λb o hb hnf q=>by rw[q,hT] at hb;injection hb with hb;subst hb;exact hnf ts hdT
 unfold setFlight;refine af (cg he hd h1 ?_);rw[ai (show(Value.ref T !=Value.none)=true from by simp)];refine wpAny_setField hT hdT hsz3 (h _ ⟨λb o hbo=>(other b λq=>by rw[q,hnT] at hbo;cases hbo).trans (hkb b o hbo),hen,hl.of_keeps λb o hb hnf=>⟨o,(other b (noRecord b o hb hnf)).trans hb,rfl⟩,?_⟩ ⟨λb o hb hnf=>⟨o.slots,(other b (noRecord b o hb hnf)).trans hb⟩,λoe' vs' q hq=>⟨vs',?_⟩⟩)
 ·exact⟨oe,vs,T,_,_,(other e (gz hTe)).trans he,hd,h1,hnT,hTe,g9 _ hT (Obj.isFreed_of_fields (Obj.data_mapFields hdT _)),Obj.data_mapFields hdT _,by simp [hsz3]⟩
 ·rw[he] at q;obtain rfl:=kr q
  rw[(other e (gz hTe)).trans he,<-hq]
theorem Ck{Q:Unit->Sh->Prop}(hfr:A.frames=some (env::outer))(hl:s.heap.FunFrames B (env::outer))(hf:env.frame=some L)
  (he:s.heap.get? e=some oe) (hkb:B.StaysIn s.heap) (hen:B.get? e=none) (hd:oe.data=.fields vs) (h1:vs[1]?=some .none)
  (h:∀ h',D3 B (env::outer) e (rawInt L) h'->DY e s.heap h'->Q ⟨⟩ { s with heap:=h' }):wpAny M A (noteFrame (.ref e) env) Q E s:=by unfold noteFrame;simp only[hf];refine af (cg he hd h1 ?_);rw[aa ()];exact xO hfr hl hf he hkb hen hd (Array.getElem?_eq_some_iff.mp h1).1 h
theorem qY{Q:Unit->Sh->Prop}(hfr:A.frames=some (env::outer))(hf:env.frame=some L)(F:D3 B (env::outer) e .none s.heap)
  (h:∀ h',D3 B (env::outer) e (rawInt L) h'->DY e s.heap h'->Q ⟨⟩ { s with heap:=h' }):wpAny M A (noteFrame (.ref e) env) Q E s:=by
 obtain⟨hkb,hen,hl,oe,vs,T,oT,ts,he,hd,h1,hnT,hTe,hT,hdT,h3⟩:=F;unfold noteFrame;simp only[hf];refine af (cg he hd h1 ?_);rw[ai (show(Value.ref T !=Value.none)=true from by simp)];refine af (cg hT hdT h3 ?_);rw[aa (show ¬ ((Value.none==rawInt L)=true) from by simp [rawInt])];refine af (wpAny_setField hT hdT (Array.getElem?_eq_some_iff.mp h3).1 ?_);have other:∀ b,b≠T->(s.heap.update T (Obj.mapFields (·.setIfInBounds 3 Value.none))).get? b=s.heap.get? b:=λb hb=>ia _ _ (gz hb);have noRecord:∀ b o,s.heap.get? b=some o->(∀ vs,o.data≠.fields vs)->b≠T:=λb o hb hnf q=>by rw[q,hT] at hb;injection hb with hb;subst hb;exact hnf ts hdT
 refine xO hfr (hl.of_keeps λb o hb hnf=>⟨o,(other b (noRecord b o hb hnf)).trans hb,rfl⟩) hf ((other e (gz hTe)).trans he)
  (λb o hbo=>(other b λq=>by rw[q,hnT] at hbo;cases hbo).trans (hkb b o hbo)) hen hd (Array.getElem?_eq_some_iff.mp h1).1
  λh' x1 x2=>h h' x1 ⟨λb o hb hnf=>x2.up b o ((other b (noRecord b o hb hnf)).trans hb) hnf,λoe' vs' q hq=>x2.ex oe' vs' ((other e (gz hTe)).trans q) hq⟩
theorem qX{Q:Unit->Sh->Prop}(hf:env.frame=some L)(F:D3 B l e (rawInt L) s.heap)(h:Q ⟨⟩ s):wpAny M A (noteFrame (.ref e) env) Q E s:=by obtain⟨hkb,hen,hl,oe,vs,T,oT,ts,he,hd,h1,hnT,hTe,hT,hdT,h3⟩:=F;unfold noteFrame;simp only[hf];refine af (cg he hd h1 ?_);rw[ai (show(Value.ref T !=Value.none)=true from by simp)];refine af (cg hT hdT h3 ?_);rw[ai (by simp [rawInt])];exact aq h
theorem AI{Q:Unit->Sh->Prop}(h:wpAny M A (noteFrame (.ref e) env) (λq s'=>D3 B l e (rawInt L) s'.heap/\∀ h',D3 B l e .none h'->DY e s'.heap h'->Q ⟨⟩ { s' with heap:=h' }) E s):wpAny M A («leaving» env (.ref e)) Q E s:=by unfold «leaving»;exact af (ak h (λq s' x=>kX x.1 x.2) λq q x=>x)
end
section
noncomputable def fJ(l:List Env):List Ad:=l.filterMap (·.frame)
structure BA(c:Fx)(P:PH)(e:Ad)(fl:Va)(s:Sh)(m:Str->Op Va)(G:HF)(D:Ad->Ad)(B:Heap):Prop where
 st:lT c [] P s m G D
 Bu:D3 B (c.aZ::c.outer) e fl s.heap
 base:c.base.StaysIn B
 Oe:∃ C fs,P e=some (.exc C fs)
 Hj:∀ a o,s.heap.get? a=some o->a≠e->a∉fJ (c.aZ::c.outer)->((∃ x,P a=some x)\/(∃ p,G a=some p)\/∃ b x,P b=some x/\x.eY=true/\D b=a)->B.get? a=some o
def Nr(c:Fx)(fl:Va):Prop:=fl=.none\/∃ Lf,c.aZ.frame=some Lf/\fl=rawInt Lf
inductive Exc(c:Fx)(X:Ad->PH->Prop)(ev:Va)(s:Sh):Prop
 | mk (e:Ad) (P:PH) (m:Str->Op Va) (G:HF) (D:Ad->Ad) (B:Heap) (fl:Va) (q:ev=.ref e) (k:Nr c fl) (d:BA c P e fl s m G D B) (x:X e P)
inductive Ok(c:Fx)(l:Lv)(Q:Va->PH->Prop)(v:Va)(s:Sh):Prop
 | mk (P:PH) (S:St c l P s) (h:Q (ab v) P)
theorem bG{c:Fx}{M:Model}{A:Around}{x:Sem Va}{l:Lv}{Q:Va->PH->Prop}{E Q':VS}{s:Sh}(h:wpAny M A x (Ok c l Q) E s)(k:∀ v P' s',St c l P' s'->Q (ab v) P'->Q' v s'):wpAny M A x Q' E s:=ak h (λv s' ⟨P',S',q⟩=>k v P' s' S' q) λj j x=>x
noncomputable def CP(c:Fx)(l:Lv)(X:Ad->PH->Prop)(Q:Va->PH->Prop):Result->Sh->Prop
 | .ok (.ret v),s=>Ok c l Q v s
 | .ok _,_=>False
 | .error e,s=>Exc c X e s
noncomputable def RK:Flow->Va
 | .ret v=>v
 | _=>.none
variable{c c':Fx}{l l':Lv}{P P':PH}{s s':Sh}{m:Str->Op Va}{G:HF}{D:Ad->Ad}{B:Heap}{e:Ad}{fl:Va}
theorem Exc.mono{X X':Ad->PH->Prop}{ev:Va}(h:Exc c X ev s)(k:∀ e P,X e P->X' e P):Exc c X' ev s:=let ⟨e,P,m,G,D,B,fl,x,f,y,z⟩:=h;⟨e,P,m,G,D,B,fl,x,f,y,k _ _ z⟩
theorem uF(O:bM c)(S:lT c l P s m G D):∀ a∈fJ (c.aZ::c.outer),∃ m,G a=some (dH m):=λa ha=>by
 obtain⟨env,he,hf⟩:=List.mem_filterMap.mp ha;rcases ku he with rfl|he
 ·obtain⟨Lf,mf,e1,e2⟩:=S.nM
  rw[e1] at hf;obtain rfl:=kr hf;exact⟨mf,e2⟩
 ·obtain⟨_,Li,m,e1,e2⟩:=O.frs env he
  rw[e1] at hf;obtain rfl:=kr hf;exact⟨m,S.ext _ _ e2⟩
theorem Cf{m:Str->Op Va}{o:Obj}(h:dH m o)(sl:Array (Op Va)):dH m { o with slots:=sl }:=h
theorem gG{m:Str->Op Va}{o:Obj}(h:dH m o):∀ vs,o.data≠.fields vs:=by obtain⟨es,ep,hd,_⟩:=h;intro vs q;rw[hd] at q;cases q
theorem BA.sat{h':Heap}(O:bM c)(S:lT c l P s m G D)(hb:c.base.StaysIn B)(st:B.StaysIn h')(hC:∃ C fs,P e=some (.exc C fs))(ch:DY e s.heap h')
  (Hj:∀ a o,s.heap.get? a=some o->a≠e->a∉fJ (c.aZ::c.outer)->((∃ x,P a=some x)\/(∃ p,G a=some p)\/∃ b x,P b=some x/\x.eY=true/\D b=a)->B.get? a=some o):
  Sat c.base h' G P D:=by
 have HG:=uF O S;have T:=S.sat;have hL:∃ oL,h'.get? c.env.locals=some oL:=by obtain⟨_,o,eo,po⟩:=T.hid _ _ S.loc;obtain⟨sl,q⟩:=ch.up _ _ eo (gG po);exact⟨_,q⟩
 obtain⟨Ce,fse,hPe⟩:=hC;refine⟨λb o q=>st b o (hb b o q),λa p hp=>?_,λa x hx=>⟨(T.rel a x hx).1,?_⟩,T.dle,T.dn,T.di,T.fp,T.fd⟩
 ·obtain⟨x,o,y,z⟩:=T.hid a p hp
  by_cases hf:a∈fJ (c.aZ::c.outer)
  ·obtain⟨m',e'⟩:=HG a hf
   rw[hp] at e';obtain rfl:=kr e';obtain⟨sl,q⟩:=ch.up _ _ y (gG z);exact⟨x,_,q,Cf z sl⟩
  ·refine⟨x,o,st _ _ (Hj a o y (λq=>?_) hf (.inr (.inl ⟨p,hp⟩))),z⟩
   rw[q] at hp;have:=T.fp _ _ hp;rw[hPe] at this;cases this
 ·have r:=(T.rel a x hx).2
  have kd:∀ y,x.eY=true->s.heap.get? (D a)=some y->h'.get? (D a)=some y:=λy hd hy=>by
   refine st _ _ (Hj _ _ hy (λq=>?_) (λq=>?_) (.inr (.inr ⟨a,x,hx,hd,rfl⟩)))
   ·have:=T.dn a x hx hd;rw[q,hPe] at this;cases this
   ·obtain⟨m',e'⟩:=HG _ q
    exact T.fd _ _ e' a x hx hd rfl
  by_cases hae:a=e
  ·subst hae
   rw[hPe] at hx;obtain rfl:=kr hx;obtain⟨vs,sl,h1,es,n,h2,h3⟩:=r;obtain⟨vs',q⟩:=ch.ex _ _ h1 rfl;exact⟨vs',sl,q,es,n,kd _ rfl h2,h3⟩
  ·refine r.two (λy hy=>st _ _ (Hj _ _ hy hae (λq=>?_) (.inl ⟨x,hx⟩))) kd
   obtain⟨m',e'⟩:=HG _ q;have:=T.fp _ _ e';rw[hx] at this;cases this
theorem BA.first{h':Heap}{fl':Va}(O:bM c)(S:lT c l P s m G D)(hbb:c.base.StaysIn B)(Oe:∃ C fs,P e=some (.exc C fs))
  (Hj:∀ a o,s.heap.get? a=some o->a≠e->a∉fJ (c.aZ::c.outer)->((∃ x,P a=some x)\/(∃ p,G a=some p)\/∃ b x,P b=some x/\x.eY=true/\D b=a)->B.get? a=some o)
  (F:D3 B (c.aZ::c.outer) e fl' h') (ch:DY e s.heap h'):BA c P e fl' { s with heap:=h' } m G D B:=by
 have sat:=BA.sat O S hbb F.st Oe ch Hj;have HG:=uF O S;refine⟨⟨S.ext,S.loc,S.nM,S.nZ,S.own,sat,lq.nil,S.gens,S.os⟩,F,hbb,Oe,λa o ho hae hf r=>?_⟩
 have:∃ o',s.heap.get? a=some o':=by
  rcases r with⟨x,hx⟩|⟨p,hp⟩|⟨b,x,hx,hd,rfl⟩
  ·exact(S.sat.rel a x hx).2.self
  ·obtain⟨_,o',q,_⟩:=S.sat.hid a p hp;exact⟨o',q⟩
  ·exact(S.sat.rel b x hx).2.Nd hd
 obtain⟨o',ho'⟩:=this;have hB:=Hj a o' ho' hae hf r;have:=F.st _ _ hB;rw[show({ s with heap:=h' }:Sh).heap.get? a=h'.get? a from rfl,this] at ho;obtain rfl:=kr ho;exact hB
theorem BA.move{h':Heap}{fl':Va}(O:bM c)(S:BA c P e fl s m G D B)(F:D3 B (c.aZ::c.outer) e fl' h')(ch:DY e s.heap h'):BA c P e fl' { s with heap:=h' } m G D B:=BA.first O S.st S.base S.Oe S.Hj F ch
structure Sub(c' c:Fx)(m:Str->Op Va):Prop where
 outer:c'.outer=c.aZ::c.outer
 base:c'.base=c.base
 os:c'.os=c.os
 ext:∀ a p,c.F a=some p->c'.F a=some p
 loc:c'.F c.env.locals=some (dH m)
 nM:∃ Lf mf,c.aZ.frame=some Lf/\c'.F Lf=some (dH mf)
 nZ:∀ x a,c.env.cells.lookup x=some a->∃ v,c'.F a=some (eS v)
 own:∀ a p,c'.F a=some p->c.F a=some p\/pF p\/((∃ v,p=eS v)/\∃ x,c.env.cells.lookup x=some a/\c.env.scope.names.lookup x=some .cell)
noncomputable def iY(scope:Scope):Bool:=scope.names.any λq=>q.2==.cell
noncomputable def ret(scope:Scope)(P:PH):PH:=if iY scope then bJ P else P
theorem OV{scope:Scope}(h:iY scope=false){x:Str}:scope.names.lookup x≠some .cell:=λq=>by have:=List.any_eq_false.mp h (x,.cell) (mem_of_lookup q);simp at this
theorem CZ{base:Heap}(S:Sat base s.heap G P D)(ext:∀ a p,c'.F a=some p->G a=some p)
  (own:∀ a p,G a=some p->c'.F a=some p\/pF p\/((∃ v,p=eS v)/\∃ x,c'.env.cells.lookup x=some a/\c'.env.scope.names.lookup x=some .cell)):
  Sat base s.heap c'.F (ret c'.env.scope P) D:=by
 unfold ret;cases hc:iY c'.env.scope with
 | true=>rw[ai rfl];exact(S.forget λj j e=>(gE e).1).CL ext (.inl λj j e=>(gE e).2)
 | false=>
  rw[aa ()];refine S.CL ext (.inr λb p hp hh=>?_);rcases own b p hp with q|hn|⟨_,x,_,q⟩
  ·exact q
  ·obtain⟨_,o,eo,po⟩:=S.hid _ _ hp
   obtain⟨oc,e1,v,e2⟩:=hh;rw[eo] at e1;obtain rfl:=kr e1;exact absurd e2 (hn _ po v)
  ·exact absurd q (OV hc)
theorem Sub.back(U:Sub c' c m)(S:St c' l' P s)(lv:lq c.env c'.F m l):St c l (ret c'.env.scope P) s:=by obtain⟨m',G,D,S⟩:=S;exact⟨m,c'.F,D,U.ext,U.loc,U.nM,U.nZ,U.own,U.base▸CZ S.sat S.ext S.own,lv,S.gens,S.os.trans U.os⟩
theorem uH{h:Heap}{env:Env}{l:List Env}(x:h.FunFrames B (env::l)):h.FunFrames B l:=x.2.2
theorem qq{scope:Scope}{a:Ad}{x:PO}(h:ret scope P a=some x):P a=some x:=by
 unfold ret at h;split at h
 ·exact(gE h).1
 ·exact h
theorem LJ{scope:Scope}{a C:Ad}{fs:List (Nat × Va)}(h:P a=some (.exc C fs)):ret scope P a=some (.exc C fs):=by
 unfold ret;split
 ·unfold bJ;rw[h];rfl
 ·exact h
theorem BA.leave(U:Sub c' c m)(O:bM c'){m':Str->Op Va}(S:BA c' P e .none s m' G D B)(hf:c'.aZ.frame=some c'.env.locals):BA c (ret c'.env.scope P) e .none s m c'.F D B:=by
 obtain⟨C,fs,hE⟩:=S.Oe;refine⟨⟨U.ext,U.loc,U.nM,U.nZ,U.own,U.base▸CZ S.st.sat S.st.ext S.st.own,lq.nil,S.st.gens,S.st.os.trans U.os⟩,⟨S.Bu.st,S.Bu.en,?_,S.Bu.tr⟩,U.base▸S.base,⟨C,fs,LJ hE⟩,λa o ho hae hfr r=>?_⟩
 ·have:=S.Bu.ff;rw[U.outer] at this;exact uH this
 ·refine S.Hj a o ho hae (λhm=>?_) ?_
  ·rw[fJ,List.filterMap_cons,hf] at hm
   rcases ku hm with q|hm
   ·rcases r with⟨x,hx⟩|⟨p,hp⟩|⟨b,x,hx,hd,q'⟩
    ·have:=S.st.sat.fp _ _ S.st.loc;rw[<-q,qq hx] at this;cases this
    ·rw[q,O.nF] at hp;cases hp
    ·exact S.st.sat.fd _ _ S.st.loc b x (qq hx) hd (q'.trans q)
   ·rw[U.outer] at hm;exact hfr hm
  ·rcases r with⟨x,hx⟩|⟨p,hp⟩|⟨b,x,hx,hd,q⟩
   ·exact .inl ⟨x,qq hx⟩
   ·exact .inr (.inl ⟨p,S.st.ext _ _ hp⟩)
   ·exact .inr (.inr ⟨b,x,qq hx,hd,q⟩)
theorem Exc.leave{M:Model}{E:VS}{X:Ad->PH->Prop}{ev:Va}(U:Sub c' c m)(O:bM c')(h:Exc c' (λe P=>X e (ret c'.env.scope P)) ev s)(hf:c'.aZ.frame=some c'.env.locals):
  wpAny M c'.A («leaving» c'.aZ ev) (λj s'=>Exc c X ev s') E s:=by
 obtain⟨e,P,m',G,D,B,fl,rfl,hfl,S,hX⟩:=h;refine AI (L:=c'.env.locals) (B:=B) (l:=c'.aZ::c'.outer) ?_;rcases hfl with rfl|⟨Lf,q,rfl⟩
 ·refine qY O.hA hf S.Bu λh' F ch=>⟨F,λh'' F' ch'=>?_⟩
  have S':=(S.move O F ch).move O F' ch';exact⟨e,_,m,c'.F,D,B,.none,rfl,.inl rfl,S'.leave U O hf,hX⟩
 ·rw[hf] at q;obtain rfl:=kr q
  refine qX hf S.Bu ⟨S.Bu,λh'' F' ch'=>?_⟩;have S':=S.move O F' ch';exact⟨e,_,m,c'.F,D,B,.none,rfl,.inl rfl,S'.leave U O hf,hX⟩
structure zM(K:Frag)(f:Ad)(fd:FuncData)(body:List Stmt):Prop where
 at_:∃ o,K.lookup f=some o/\o.data=.func fd
 body:fd.body=.stmts body
 S2:fd.closure=[]
 qS:fd.globals=mainGlobals
 JT:fd.builtins=builtinsNs
 co:fd.scope.isCoroutine=false
 gen:fd.scope.isGenerator=false
 knd:fd.scope.kind=.function
 nd:(fd.scope.names.map (·.1)).Nodup
 code:∃ c o vs t,fd.code=.ref c/\K.lookup c=some o/\o.data=.fields vs/\vs[1]?=some (.str fd.qualname t)
 NR:∀ k,fd.scope.names.map (·.1)=gR k->fd.code=.ref (eZ k)/\fd.qualname++".<locals>."++"<lambda>"=gF k
structure oH(scope:Scope)(binds:List (Str × Va)):Prop where
 nd:(binds.map (·.1)).Nodup
 kd:∀ x∈binds,scope.names.lookup x.1=some .local\/scope.names.lookup x.1=some .cell
noncomputable def fP(scope:Scope)(binds:List (Str × Va)):Lv:=scope.names.map λq=>(binds.lookup q.1).map ab
theorem kL{x:Str}:∀(nms:List (Str × NameKind)) (n:Nat) (acc:List (Str × Ad)),(nms.lookup x=some .cell\/(acc.lookup x).isSome=true)->((cellsFrom n nms acc).lookup x).isSome=true:=by
 intro rr;induction rr with
 | nil=>
  intro n acc h;rcases h with h|h
  ·cases h
  ·exact h
 | cons yk r ih=>
  obtain⟨y,k⟩:=yk;intro n acc h;unfold cellsFrom;by_cases hk:(k==NameKind.cell)=true
  ·rw[ai hk]
   refine ih _ _ ?_;by_cases hx:x=y
   ·subst hx;right;simp
   ·rw[f6,bu hx] at h
    rcases h with h|h
    ·exact .inl h
    ·right;rw[f6,bu hx];exact h
  ·rw[aa hk]
   refine ih _ _ ?_;by_cases hx:x=y
   ·subst hx
    rcases h with h|h
    ·simp at h;subst h;simp at hk
    ·exact .inr h
   ·rw[f6,bu hx] at h
    exact h
theorem Ek{x:Str}{a:Ad}:∀(nms:List (Str × NameKind)) (n:Nat) (acc:List (Str × Ad)),(x,a)∈cellsFrom n nms acc->(x,.cell)∈nms\/(x,a)∈acc:=by
 intro rr;induction rr with
 | nil=>exactλn acc h=>.inr h
 | cons yk r ih=>
  obtain⟨y,k⟩:=yk;intro n acc h;unfold cellsFrom at h;by_cases hk:(k==NameKind.cell)=true
  ·rw[ai hk] at h
   rcases ih _ _ h with q|q
   ·exact .inl (.tail _ q)
   ·rcases ku q with q|q
    ·cases q
     obtain rfl:k=.cell:=by simpa using hk
     exact .inl (.head _)
    ·exact .inr q
  ·rw[aa hk] at h
   rcases ih _ _ h with q|q
   ·exact .inl (.tail _ q)
   ·exact .inr q
theorem GV:∀(nms:List (Str × NameKind)) (n:Nat) (acc:List (Str × Ad)),(nms.map (·.1)).Nodup->(acc.map (·.1)).Nodup->(∀ x∈nms.map (·.1),x∉acc.map (·.1))->((cellsFrom n nms acc).map (·.1)).Nodup:=by
 intro rr;induction rr with
 | nil=>exactλn acc j h j=>h
 | cons yk r ih=>
  obtain⟨y,k⟩:=yk;intro n acc h1 h2 h3;rw[gn,jj] at h1;unfold cellsFrom;split
  ·refine ih _ _ h1.2 ?_ λx hx=>?_
   ·rw[gn,jj];exact⟨h3 y (.head _),h2⟩
   ·rw[gn,kh,not_or]
    exact⟨λq=>h1.1 (q▸hx),h3 x (.tail _ hx)⟩
  ·exact ih _ _ h1.2 h2 λx hx=>h3 x (.tail _ hx)
theorem fK{β:Type}{l:List (Str × β)}{x:Str}{k:β}(nd:(l.map (·.1)).Nodup)(h:(x,k)∈l):l.lookup x=some k:=by obtain⟨i,hi⟩:=List.mem_iff_getElem?.mp h;exact aT nd hi
theorem xh{kindOf:Str->Op NameKind}{x:Str}:∀{binds:List (Str × Va)} {m:Str->Op Va},x∉binds.map (·.1)->bindL kindOf binds m x=m x
 | [],m,_=>rfl
 | (n,v)::r,m,h=>by
  rw[gn,kh,not_or] at h;unfold bindL;rw[xh h.2];split
  ·simp [h.1]
  ·rfl
theorem xg{kindOf:Str->Op NameKind}{x:Str}{v:Va}(hk:kindOf x=some .local):∀{binds:List (Str × Va)} {m:Str->Op Va},(binds.map (·.1)).Nodup->binds.lookup x=some v->bindL kindOf binds m x=some v
 | (n,u)::r,m,nd,h=>by
  rw[gn,jj] at nd;unfold bindL;by_cases hx:x=n
  ·subst hx
   simp at h;subst h;rw[xh nd.1,ai hk];simp
  ·rw[f6,bu hx] at h
   exact xg hk nd.2 h
theorem xe{kindOf:Str->Op NameKind}{x:Str}:∀{binds:List (Str × Va)} {m:Str->Op Va},x∉binds.map (·.1)->bindC kindOf binds m x=m x
 | [],m,_=>rfl
 | (n,v)::r,m,h=>by
  rw[gn,kh,not_or] at h;unfold bindC;rw[xe h.2];split
  ·rfl
  ·simp [h.1]
theorem w9{kindOf:Str->Op NameKind}{x:Str}{v:Va}(hk:kindOf x=some .cell):∀{binds:List (Str × Va)} {m:Str->Op Va},(binds.map (·.1)).Nodup->binds.lookup x=some v->bindC kindOf binds m x=some v
 | (n,u)::r,m,nd,h=>by
  rw[gn,jj] at nd;unfold bindC;by_cases hx:x=n
  ·subst hx
   simp at h;subst h;rw[xe nd.1,aa (by rw[hk];decide)];simp
  ·rw[f6,bu hx] at h
   exact w9 hk nd.2 h
noncomputable def HG(e:Env)(L:Obj->Prop)(cm:Str->Op Va)(G:HF):HF:=λa=>if a=e.locals then some L else((e.cells.find? λq=>q.2==a).map λq=>eS (cm q.1)).or (G a)
theorem Dk{e:Env}{L:Obj->Prop}{cm:Str->Op Va}{G:HF}{a:Ad}{p:Obj->Prop}(h:HG e L cm G a=some p):(a=e.locals/\p=L)\/(∃ y,(y,a)∈e.cells/\p=eS (cm y))\/G a=some p:=by
 by_cases q:a=e.locals
 ·exact .inl ⟨q,(kr ((ai q).symm.trans h)).symm⟩
 ·rcases Option.or_eq_some_iff.mp ((aa q).symm.trans h) with h|h
  ·refine dJ h λr hr e=>.inr (.inl ⟨r.1,?_,e.symm⟩)
   have w:r.2=a:=beq_iff_eq.mp (List.find?_some (p:=λq:Str × Ad=>q.2==a) hr);exact w▸List.mem_of_find?_eq_some hr
  ·exact .inr (.inr h.2)
theorem KI{e:Env}{L:Obj->Prop}{cm:Str->Op Va}{G:HF}{a:Ad}(q:a≠e.locals)(w:∀ y,(y,a)∉e.cells):HG e L cm G a=G a:=by refine(aa q).trans ?_;rw[List.find?_eq_none.mpr λx hx hq=>w x.1 (beq_iff_eq.mp hq▸hx)];rfl
theorem HH{e:Env}{L:Obj->Prop}{cm:Str->Op Va}{G:HF}{a:Ad}{y:Str}(nd:∀{y z a},(y,a)∈e.cells->(z,a)∈e.cells->y=z)(q:a≠e.locals)(h:(y,a)∈e.cells):HG e L cm G a=some (eS (cm y)):=by
 refine(aa q).trans ?_;cases f:e.cells.find? λq=>q.2==a with
 | none=>exact absurd (bg a) (List.find?_eq_none.mp f _ h)
 | some r=>have w:r.2=a:=beq_iff_eq.mp (List.find?_some (p:=λq:Str × Ad=>q.2==a) f);exact aj (λy=>some (eS (cm y))) (nd (w▸List.mem_of_find?_eq_some f) h)
set_option tactic.hygienic true in
theorem Hq{n:Nat}{f:Ad}{fd:FuncData}{body:List Stmt}{args:Args}{binds:List (Str × Va)}{X:Ad->PH->Prop}{Q:Va->PH->Prop}
  (S:St c l P s) (O:bM c) (rm:bP (n+1) c.A) (fn:zM K f fd body) (hb:BindsTo s fd args binds) (hk:oH fd.scope binds)
  (h:∀ c' m s',bM c'->bP n c'.A->c'.env.scope=fd.scope->c'.aZ=c'.env->Sub c' c m->c'.aZ.frame=some c'.env.locals->St c' (fP fd.scope binds) P s'->wpAny (model pw wd) c'.A (execs body c'.env) (λfl s''=>∃ l' P',St c' l' P' s''/\Q (ab (RK fl)) (ret fd.scope P')) (λev s''=>∀ E,wpAny (model pw wd) c'.A («leaving» c'.aZ ev) (λj s'=>Exc c X ev s') E s'') s'):
  codeAny (model pw wd) c.A (.call (.ref f) args) (CP c l X Q) s:=by
 obtain⟨m,G,D,S⟩:=S;have T:=S.sat;have hbs:=T.stay;obtain⟨o,ho,hd⟩:=fn.at_;obtain⟨cc,oc,vs,t,e1,e2,e3,e4⟩:=fn.code;have kin:∀ a o,K.lookup a=some o->s.heap.get? a=some o:=λa o q=>hbs _ _ (O.X a o q);refine codeAny_call_function (gr (gr (gr (Nat.lt_succ_self _) (Nat.add_le_add_left (Nat.le_add_left 1 n) _)) rm.dp) ⋯) (kin _ _ ho) hd fn.co fn.gen fn.body ⟨cc,oc,vs,t,e1,kin _ _ e2,e3,e4⟩ (hb _ _ _ _ ?_);rw[fn.S2];refine wpAny_newFunctionEnv_cells fn.knd (λx hx=>(hk.kd x hx).imp_right λq=>⟨q,kL _ _ _ (.inl q)⟩) λenv' he s' x=>?_;have hkeep:=x.toInCall.keep;refine⟨(O.top.nolimit.keeps hbs).keeps hkeep,codeAny_func ?_⟩;obtain⟨h₁,tk,rfl⟩:=x.toInCall.same;have hcells:env'.cells=cellsFrom (s.heap.objs.size+1) fd.scope.names []:=by rw[he];rfl
 have hloc:env'.locals=s.heap.objs.size:=by rw[he];rfl
 have hscope:env'.scope=fd.scope:=by rw[he];rfl
 have hframe:env'.frame=some env'.locals:=by rw[he];rfl
 have cnd:(env'.cells.map (·.1)).Nodup:=by rw[hcells];exact GV _ _ _ fn.nd .nil (λx j q=>nomatch q)
 have cellsNd:∀{y z a},(y,a)∈env'.cells->(z,a)∈env'.cells->y=z:=λh1 h2=>name_of_addr x.apart h1 h2;let cm:=bindC env'.kindOf binds λj=>none;let G':HF:=HG env' (dH (bindL env'.kindOf binds λj=>none)) cm G;have hG'L:G' env'.locals=some (dH (bindL env'.kindOf binds λj=>none)):=ai rfl;have above:∀{y a},(y,a)∈env'.cells->s.heap.objs.size<a:=λ{y a} hm=>by have:=x.above y a hm;rwa [hloc] at this
 have hG'old:∀ a,a<s.heap.objs.size->G' a=G a:=λa ha=>KI (λq=>gq ha (q.trans hloc)) λy hm=>ig _ (gy ha (above hm));have ltG:∀ a p,G a=some p->a<s.heap.objs.size:=λa p q=>let ⟨_,o,eo,_⟩:=T.hid a p q;fy eo;have hcellG:∀ y a,env'.cells.lookup y=some a->G' a=some (eS (cm y)):=λy a q=>HH cellsNd (λz=>jr (above (mem_of_lookup q)) (z.trans hloc)) (mem_of_lookup q);let c':Fx:=⟨env',env',c.A.deeper env',c.base,c.mg,c.mb,c.aZ::c.outer,G,c.os⟩
 have O':bM c':=by
  refine⟨Around.frames_deeper O.hA,O.hh,by rw[hscope];exact fn.knd,by show env'.globals=_;rw[he];exact fn.qS,by show env'.builtins=_;rw[he];exact fn.JT,by rw[hscope];exact fn.nd,?_,λj y a q j=>?_,λy z a q r=>cellsNd (mem_of_lookup q) (mem_of_lookup r),by rw[hscope,fn.knd];decide,O.X,O.top,O.big,O.st,λe' hm=>?_,λx hx=>cz (by rw[hcells];exact kL fd.scope.names (s.heap.objs.size+1) [] (.inl (hscope▸hx))),hframe,λk hk'=>?_,?_,O.GX⟩
  ·cases q:G env'.locals with
   | none=>exact q
   | some p=>have:=ltG _ _ q;rw[hloc] at this;exact absurd this (ig _)
  ·cases r:G a with
   | none=>exact r
   | some p=>exact absurd (gy (ltG _ _ r) (by have:=x.above y a (mem_of_lookup q);rw[hloc] at this;exact this)) (ig _)
  ·rcases ku hm with rfl|hm
   ·obtain⟨Lf,mf,q1,q2⟩:=S.nM
    exact⟨O.fk,Lf,mf,q1,q2⟩
   ·obtain⟨q0,Li,mi,q1,q2⟩:=O.frs e' hm
    exact⟨q0,Li,mi,q1,S.ext _ _ q2⟩
  ·rw[hscope] at hk'
   obtain⟨q1,q2⟩:=fn.NR k hk';refine⟨by show env'.code=_;rw[he];exact q1,?_⟩;show env'.qual++_=_;rw[he];exact q2
  ·show c.base.objs.size<=env'.locals
   rw[hloc];obtain⟨_,o,eo,_⟩:=T.hid _ _ S.loc;exact ja (k6 O.Nz (fy eo))
 have ns:=x.toInCall.ns;have hle:s.heap.objs.size<=h₁.objs.size:=by have:env'.locals<h₁.objs.size:=ns.lt;rw[hloc] at this;exact ja this
 have S':lT c' (fP fd.scope binds) P { s with heap:=h₁,toks:=tk } (bindL env'.kindOf binds λj=>none) G' D:=by
  refine⟨λa p q=>(hG'old a (ltG a p q)).trans q,hG'L,⟨_,_,hframe,hG'L⟩,λy a q=>⟨_,hcellG y a q⟩,λa p q=>?_,?_,?_,S.gens,S.os⟩
  ·rcases Dk q with⟨-,rfl⟩|⟨y,hm,rfl⟩|q'
   ·exact .inr (.inl dU)
   ·refine .inr (.inr ⟨⟨_,rfl⟩,y,fK cnd hm,?_⟩)
    rcases Ek _ _ _ (hcells▸hm) with z|z
    ·show env'.scope.names.lookup y=_
     rw[hscope];exact fK fn.nd z
    ·cases z
   ·exact .inl q'
  ·refine T.hides (.of_keep T.stay hkeep) (λa p q=>(hG'old a (ltG a p q)).trans q) λa p q=>?_
   by_cases ha:a<s.heap.objs.size
   ·exact .inl ((hG'old a ha).symm.trans q)
   ·obtain⟨z1,z2⟩:=T.lt (Nat.not_lt.mp ha)
    rcases Dk q with⟨rfl,rfl⟩|⟨y,hm,rfl⟩|q'
    ·exact .inr ⟨z1,z2,iZ ns⟩
    ·obtain⟨oc,q1,q2⟩:=x.cell y a (fK cnd hm)
     exact .inr ⟨z1,z2,oc,q1,q2⟩
    ·exact .inl q'
  ·intro i v hi
   unfold fP at hi;rw[gj] at hi;cases hn:fd.scope.names[i]? with
   | none=>rw[hn] at hi;cases hi
   | some q=>
    obtain⟨y,k⟩:=q;rw[hn] at hi;simp only[i7,je] at hi;cases hb':binds.lookup y with
    | none=>rw[hb'] at hi;cases hi
    | some v'=>
     rw[hb'] at hi;simp only[i7,je] at hi;have hky:=aT fn.nd hn;have hkind:env'.kindOf y=some k:=by show env'.scope.names.lookup y=_;rw[hscope];exact hky
     refine⟨y,k,by show env'.scope.names[i]?=_;rw[hscope];exact hn,?_⟩;rcases hk.kd (y,v') (mem_of_lookup hb') with q|q
     ·have hkl:k=.local:=kr (hky.symm.trans q)
      subst hkl;exact .inl ⟨rfl,v',xg hkind hk.nd hb',hi⟩
     ·have hkl:k=.cell:=kr (hky.symm.trans q)
      subst hkl;obtain⟨a,ha⟩:=cz (kL fd.scope.names (s.heap.objs.size+1) [] (.inl q));rw[<-hcells] at ha;refine .inr ⟨.inl rfl,a,v',ha,?_,hi⟩;rw[hcellG y a ha,show cm y=some v' from w9 hkind hk.nd hb']
 have U:Sub c' c m:=⟨rfl,rfl,rfl,S.ext,S.loc,S.nM,S.nZ,S.own⟩
 refine ak (h c' m _ O' ⟨?_,?_⟩ hscope rfl U hframe ⟨_,G',D,S'⟩) (λfl s'' hq=>?_) λev s'' hx=>?_
 ·have:=rm.dp;show c.A.depth+1+n<=990;lia
 ·have:=rm.un;show c.A.units+3+10*n<=9890;lia
 ·obtain⟨l',P',S'',hQ⟩:=hq
  have:=U.back S'' S.lv;rw[show c'.env.scope=fd.scope from hscope] at this;cases fl<;>exact⟨_,this,hQ⟩
 ·exact hx _
theorem enter{n:Nat}{f:Ad}{fd:FuncData}{body:List Stmt}{args:Args}{binds:List (Str × Va)}{X:Ad->PH->Prop}{Q:Va->PH->Prop}
  (S:St c l P s) (O:bM c) (rm:bP (n+1) c.A) (fn:zM K f fd body) (hb:BindsTo s fd args binds) (hk:oH fd.scope binds)
  (h:∀ c' s',bM c'->bP n c'.A->c'.env.scope=fd.scope->c'.aZ=c'.env->St c' (fP fd.scope binds) P s'->wpAny (model pw wd) c'.A (execs body c'.env) (λfl s''=>∃ l' P',St c' l' P' s''/\Q (ab (RK fl)) (ret fd.scope P')) (λe s''=>Exc c' (λe P=>X e (ret fd.scope P)) e s'') s'):
  codeAny (model pw wd) c.A (.call (.ref f) args) (CP c l X Q) s:=Hq S O rm fn hb hk λc' m s' O' R' hs he U hf S'=>ak (h c' s' O' R' hs he S') (λq q x=>x) λev s'' hx E=>by refine Exc.leave (X:=X) U O' ?_ hf;rw[hs];exact hx
end
section
noncomputable abbrev MM(wd:World):Model:=model pw wd
noncomputable def led(base h:Heap)(L:Ad):List (Ad × Obj):=((List.range h.objs.size).filter λa=>(base.get? a).isNone&&a !=L&&(h.get? a).isSome).map λa=>(a,(h.get? a).getD default)
theorem qf{base h:Heap}{L a:Ad}{o:Obj}:(a,o)∈led base h L↔h.get? a=some o/\base.get? a=none/\a≠L:=by
 unfold led;rw[List.mem_map];constructor
 ·rintro ⟨b,hb,e⟩
  rw[List.mem_filter] at hb;obtain⟨_,hb⟩:=hb;simp only[e9,Option.isNone_iff_eq_none,bne_iff_ne,ne_eq] at hb;obtain⟨⟨h1,h2⟩,h3⟩:=hb;obtain⟨ob,h4⟩:=cz h3;rw[h4] at e;cases e;exact⟨h4,h1,h2⟩
 ·rintro ⟨h1,h2,h3⟩
  refine⟨a,List.mem_filter.mpr ⟨List.mem_range.mpr (fy h1),?_⟩,by rw[h1];rfl⟩;simp [h1,h2,h3]
theorem EO{base h:Heap}{L:Ad}:((led base h L).map (·.1)).Nodup:=by unfold led;rw[ir];have:((λx:Ad × Obj=>x.1)∘λa=>(a,(h.get? a).getD default))=id:=rfl;rw[this,List.map_id];exact List.nodup_range.filter _
theorem EP{base h:Heap}{L a:Ad}{o:Obj}(hm:(a,o)∈led base h L):∃ pre post,led base h L=pre++(a,o)::post/\(∀ p∈pre,p.1≠a)/\∀ p∈post,p.1≠a:=by obtain⟨pre,post,e⟩:=List.append_of_mem hm;have nd:=EO (base:=base) (h:=h) (L:=L);rw[e,i8,gn,List.nodup_append] at nd;obtain⟨n1,n2,n3⟩:=nd;rw[jj] at n2;exact⟨pre,post,e,λq hq z=>n3 q.1 (jx hq) a (.head _) z,λq hq z=>n2.1 (by have y:q.1∈post.map (·.1):=jx hq;rw[z] at y;exact y)⟩
variable{c:Fx}{l l':Lv}{P P':PH}{s s':Sh}{m:Str->Op Va}{G:HF}{D:Ad->Ad}
theorem lT.fr(O:bM c)(S:lT c l P s m G D):Fr c.base c.env.locals s.heap m:=by obtain⟨h1,o,eo,po⟩:=S.sat.hid _ _ S.loc;exact⟨po.ns eo,S.sat.stay,O.Nz⟩
theorem lT.news(_S:lT c l P s m G D):News c.base c.env.locals s.heap (led c.base s.heap c.env.locals):=λq hq=>by obtain⟨a,o⟩:=q;obtain⟨h1,h2,h3⟩:=qf.mp hq;exact⟨h1,h3,h2⟩
theorem lT.mv(S:lT c l P s m G D){h':Heap}{x:Ad->Prop}(F':Fr c.base c.env.locals h' m)(hx:∀ a o,¬ x a->(a,o)∈led c.base s.heap c.env.locals->h'.get? a=some o):Mv c.base G x s.heap h':=by
 have T:=S.sat;refine⟨F'.keep,λb p o hb hn e po=>?_,λb o hn hF hb e=>?_⟩
 ·by_cases hL:b=c.env.locals
  ·subst hL
   rw[S.loc] at hb;obtain rfl:=kr hb;exact iZ F'.ns
  ·exact⟨o,hx b o hn (qf.mpr ⟨e,(T.hid b p hb).b,hL⟩),po⟩
 ·refine hx b o hn (qf.mpr ⟨e,hb,?_⟩)
  rintro rfl;rw[S.loc] at hF;cases hF
theorem lT.moved(S:lT c l P s m G D){s':Sh}{P':PH}{D':Ad->Ad}(T:Sat c.base s'.heap G P' D')(g:s'.gens=s.gens)(o:s'.os=s.os):lT c l P' s' m G D':=⟨S.ext,S.loc,S.nM,S.nZ,S.own,T,S.lv,g.trans S.gens,o.trans S.os⟩
variable{A:Around}{E:VS}{Q:Va->PH->Prop}
noncomputable def kP(K:Frag)(C:Ad)(x:Nat):Bool:=Nat.blt x 58&&plainGet K C (nm x)&&hasDictIn K C&&(findIn K (.ref C) (nm x)==some none)&&(findIn K (.ref C) "__setattr__"==some (some (.builtin "object.__setattr__")))&&plainOver K C&&(takerIn K C (nm x)==some none)
structure sP(K:Frag)(C:Ad)(x:Nat):Prop where
 lt:x<58
 pg:plainGet K C (nm x)=true
 hd:hasDictIn K C=true
 fi:findIn K (.ref C) (nm x)=some none
 sa:findIn K (.ref C) "__setattr__"=some (some (.builtin "object.__setattr__"))
 po:plainOver K C=true
 tk:takerIn K C (nm x)=some none
theorem sP.of{K:Frag}{C:Ad}{x:Nat}(h:kP K C x=true):sP K C x:=by unfold kP at h;simp only[e9,az] at h;obtain⟨⟨⟨⟨⟨⟨h1,h2⟩,h3⟩,h4⟩,h5⟩,h6⟩,h7⟩:=h;exact⟨bl h1,h2,h3,h4,h5,h6,h7⟩
theorem xD(v:Va):handedIn (ab v)=handedIn v:=by cases v<;>rfl
theorem cY.yE{h:Heap}{F:HF}{d a C:Ad}{fs:List (Nat × Va)}(r:cY h F d a (.inst C fs)):∃ es n,gO es fs/\h.get? d=some (dictOf es n)/\InstAt h a (instObj C d) C (some (dictOf es n)):=by obtain⟨h1,es,n,h2,h3⟩:=r;exact⟨es,n,h3,h2,h1,rfl,rfl,h2⟩
theorem Lo{a C:Ad}{fs:List (Nat × Va)}{x:Nat}{v:Va}{name:Str}(S:St c l P s)(O:bM c)(hP:P a=some (.inst C fs))(hf:kP K C x=true)(hn:name=nm x)(hg:eF x fs=some v)(hh:handedIn v=true)(hQ:Q v P):
  wpAny (MM wd) A (getAttr (.ref a) name true) (Ok c l Q) E s:=by
 subst hn;obtain⟨m,G,D,S⟩:=S;have f:=sP.of hf;obtain⟨es,n,hr,hd,I⟩:=(S.sat.rel a _ hP).2.yE;obtain⟨r,hl,hv⟩:=hr.get f.lt;rw[hg] at hv;cases r with
 | none=>cases hv
 | some v'=>simp only[i7,je] at hv;refine get_own (S.fr O) O.X I f.pg f.hd f.fi rfl hl (by rw[<-xD,hv];exact hh) ⟨P,⟨m,G,D,S.moved S.sat rfl rfl⟩,by rw[hv];exact hQ⟩
theorem Cr{a C:Ad}{fs:List (Nat × Va)}{x:Nat}{v:Va}{name:Str}{Q:Unit->Sh->Prop}(S:St c l P s)(O:bM c)(hP:P a=some (.inst C fs))(hf:kP K C x=true)(hn:name=nm x)(hz:fs.length<900)
  (hQ:∀ s',St c l (upd P a (.inst C (eH x (ab v) fs))) s'->Q ⟨⟩ s'):wpAny (MM wd) A (setAttr (.ref a) name v) Q E s:=by
 subst hn;obtain⟨m,G,D,S⟩:=S;have f:=sP.of hf;obtain⟨hb,rel⟩:=S.sat.rel a _ hP;obtain⟨es,n,hr,hd,I⟩:=rel.yE;obtain⟨r,hl,hv⟩:=hr.get f.lt;have hD:D a≠c.env.locals:=S.sat.fd _ _ S.loc a _ hP rfl;have hmem:(D a,dictOf es n)∈led c.base s.heap c.env.locals:=qf.mpr ⟨hd,(S.sat.dle a _ hP rfl),hD⟩;obtain⟨pre,post,e,h1,h2⟩:=EP hmem;refine set_plain (S.sat.stay |> λk=>O.X.keeps k) I f.sa (osa_dict (s:={ s with toks:=s.toks+1 }) (show Fr c.base c.env.locals s.heap m from S.fr O) (e▸S.news) (O.X.keeps S.sat.stay) I rfl f.po f.tk f.hd (by show(getL (nm x) es).isSome=true;rw[hl];rfl) h1 h2 (putName_dict ..) rfl ?_ λh' F' N'=>?_)
 ·have:=(hr.put f.lt (PyData.keyHash wd.params (nm x)) (s.toks+1) v).len
  have h3:=Jb x (ab v) fs;show(putL _ _ _ _ _).length<=1000;rw[this];lia
 ·refine hQ _ ⟨m,G,D,S.moved (S.sat.Jj (S.mv (x:=(·=D a)) F' λb o hb ho=>?_) hP rfl ⟨?_,_,_,(N' (D a,_) (fq _ (.head _))).1,hr.put f.lt _ _ v⟩ rfl) rfl rfl⟩
  ·rw[e] at ho
   rcases cy ho with q|q
   ·exact(N' _ (fh _ q)).1
   ·rcases ku q with q|q
    ·cases q;exact absurd rfl hb
    ·exact(N' _ (fq _ (.tail _ q))).1
  ·have ha:a≠D a:=λz=>by have:=S.sat.dn a _ hP rfl;rw[<-z,hP] at this;cases this
   have hL:a≠c.env.locals:=λz=>by have:=S.sat.fp _ _ S.loc;rw[<-z,hP] at this;cases this
   have:(a,instObj C (D a))∈led c.base s.heap c.env.locals:=qf.mpr ⟨rel.1,hb,hL⟩;rw[e] at this;rcases cy this with q|q
   ·exact(N' _ (fh _ q)).1
   ·rcases ku q with q|q
    ·exact absurd (jb q).1 ha
    ·exact(N' _ (fq _ (.tail _ q))).1
end
section
open PySem.Builtin PySem.Builtin.ObjectAttr
noncomputable def cS(x:Nat):Bool:=x==42||x==43
noncomputable abbrev yw:List Va:=[.ref 785,.ref 765,.type "ValueError",.type "Exception",.type "BaseException",.type "object"]
structure rP(K:Frag):Prop where
 cls:∃ cd,clsIn K 785=some cd/\cd.mro=yw/\cd.hasDict=true
 ga:findIn K (.ref 785) "__getattribute__"=some (some (.builtin "BaseException.__getattribute__"))
 gt:findIn K (.ref 785) "__getattr__"=some none
 sa:findIn K (.ref 785) "__setattr__"=some (some (.builtin "object.__setattr__"))
 fl:∀ x,cS x=true->findIn K (.ref 785) (nm x)=some none
noncomputable def Hx(K:Frag):Bool:=(match clsIn K 785 with
  | some cd=>(cd.mro==yw)&&cd.hasDict
  | none=>false)&&(findIn K (.ref 785) "__getattribute__"==some (some (.builtin "BaseException.__getattribute__")))&&(findIn K (.ref 785) "__getattr__"==some none)&&
 (findIn K (.ref 785) "__setattr__"==some (some (.builtin "object.__setattr__")))&&(findIn K (.ref 785) (nm 42)==some none)&&(findIn K (.ref 785) (nm 43)==some none)
set_option tactic.hygienic true in
theorem rP.of{K:Frag}(h:Hx K=true):rP K:=by
 unfold Hx at h;simp only[e9,az] at h;obtain⟨⟨⟨⟨⟨h1,h2⟩,h3⟩,h4⟩,h5⟩,h6⟩:=h;refine⟨?_,h2,h3,h4,λx hx=>?_⟩
 ·split at h1
  ·rename_i cd hc
   simp only[e9,az] at h1;exact⟨cd,hc,h1.1,h1.2⟩
  ·cases h1
 ·unfold cS at hx
  simp only[j4,az] at hx;rcases hx with rfl|rfl
  ·exact h5
  ·exact h6
section
variable{K:Frag}{A:Around}{s:Sh}{R:Result->Sh->Prop}{x:Ad}{ox:Obj}{od:Op Obj}
theorem DC{T:String}(E:rP K)(X:K.In s.heap)(h:yw.contains (.type T)=true):Looks (model pw wd) s.heap (isSubtype (.ref 785) (.type T)) true:=by obtain⟨cd,hc,hm,_⟩:=E.cls;exact looks_mroIn X (by unfold mroIn;rw[hc,jv,hm,aa (),h])
theorem DL{name:Str}{tk:Tok}{v:Va}(E:rP K)(X:K.In s.heap)(I:InstAt s.heap x ox 785 od)(hf:findIn K (.ref 785) name=some none)
  (h:wpAny (model pw wd) A.in1 (storeInOwnDict (.ref x) (.ref 785) (.str name tk) name v false)
   (λfin s'=>match fin with|.done f=>R (.ok f) s'|.again c'=>c'.quiet=true/\codeAny (model pw wd) A c' R s') (λe s'=>R (.error e) s') s):
  codeAny (model pw wd) A (.call (.builtin "object.__setattr__") ⟨[.ref x,.str name tk,v],[]⟩) R s:=by have SF:=PySem.F.store_object;have sub:Looks (model pw wd) s.heap (isInstance (.ref x) (.type "object")) true:=I.type.andThen (DC E X ());refine codeAny_call_builtin SF.slot.plain SF.entry (@check_slot (model pw wd) _ _ s "object.__setattr__" "object" "__setattr__" (.ref x) [.str name tk,v] [] _ SF.kind SF.split sub (SF.args (.ref x) (.str name tk) v) ?_);obtain⟨cd,hc,hmro,_⟩:=E.cls;have hm:Looks (model pw wd) s.heap (mroOf (.ref 785)) yw:=hmro▸(looks_clsIn X hc).andThen .now;rw[osa_eq,refuse_eq];refine af (af (I.type.here (af (hm.here ?_))));rw[refuseLoop_ref,refuseLoop_ref,PySem.F.store_ValueError.passes];exact aq (af (I.type.here (af ((looks_findIn X hf).here (af (aq h))))))
theorem LF(name:Str)(hs:Int)(k v:Va):∀ es:List DictEntry,(putL name hs k v es).length<=es.length+1:=by
 intro rr;induction rr with
 | nil=>exact by simp [putL]
 | cons e es ih=>have:=ih;unfold putL;split<;>simp<;>lia
theorem AE{d:Ad}{name:Str}{tk:Tok}{v:Va}{es:List DictEntry}{n:Nat}{h:Heap}{Q:Fin->Sh->Prop}{E:VS}(hd:h.get? d=some (dictOf es n))(hr:es.any (·.refKey)=false)(hz:es.length<=900)
  (k:∀ h' t',(∀ b,b≠d->h'.get? b=h.get? b)->h'.objs.size=h.objs.size->h'.get? d=some (dictOf (putL name (PyData.keyHash wd.params name) (.str name s.toks) v es) (putN name es n))->Q (.done (.ret .none)) { s with heap:=h',toks:=t' }):
  wpAny (model pw wd) A (storeInDict d (.str name tk) name v) Q E { s with heap:=h }:=by
 unfold storeInDict newKeyGuard;refine af (aq (af ?_));unfold nsSet;refine af (af (wpAny_askSetting (aq (af (wpAny_mkText (af (wpAny_loadPart hd ?_)))))));dsimp only
 have c:(!es.toArray.any (·.key.isStr name)&&es.toArray.any (·.refKey))=false:=by
  have:es.toArray.any (·.refKey)=false:=by rw[<-Array.any_toList];exact hr
  rw[this,Bool.and_false]
 rw[aRefKeyMayBeTheName_at,c];refine wpAny_updatePart hd ?_;have e1:=g9 (Obj.putName name (PyData.keyHash wd.params name) (.str name s.toks) v) hd (by rw[putName_dict];rfl);rw[putName_dict] at e1;refine af (wpAny_lookBehind e1 (pastItsLine_dict (by have:=LF name (PyData.keyHash wd.params name) (.str name s.toks) v es;rw[ie,sizeLine_eq];lia)) ?_);exact aq (k _ _ (λb hb=>ia _ _ (gz hb)) (by simp) e1)
end
end
section
open PySem.Builtin PySem.Builtin.ObjectAttr
variable{c:Fx}{l:Lv}{P:PH}{s:Sh}{A:Around}{E:VS}{Q:Va->PH->Prop}
theorem Cq{e:Ad}{x:Nat}{v:Va}{name:Str}{Q':Unit->Sh->Prop}(Ex:rP K)(S:St c l P s)(O:bM c)(hP:P e=some (.raw 785))(hf:cS x=true)(hx:x<58)(hn:name=nm x)
  (hQ:∀ s',St c l (upd P e (.jX 785 [(x,ab v)])) s'->Q' ⟨⟩ s'):wpAny (MM wd) A (setAttr (.ref e) name v) Q' E s:=by
 subst hn;obtain⟨m,G,D,S⟩:=S;obtain⟨hb,t,he⟩:=S.sat.rel e _ hP;have X:=O.X.keeps S.sat.stay;have I:InstAt s.heap e ⟨.ref 785,none,fH t,#[]⟩ 785 none:=⟨he,rfl,rfl,trivial⟩
 have hel:e<s.heap.objs.size:=fy he;refine set_plain X I Ex.sa (DL (s:={ s with toks:=s.toks+1 }) Ex X I (Ex.fl x hf) ?_);obtain⟨cd,hc,_,hd⟩:=Ex.cls;refine af (aq (af (af (wpAny_loadPart he (af (looks_clsIn X hc _ _ _ _ (λj j e=>e) ?_))))));rw[hd];refine af (wpAny_alloc (af (wpAny_update (ek _ he) (aq ?_))));have e1:((s.heap.push { cls:=.type "dict",data:=.dict #[] }).update e λo=>{ o with dict:=some s.heap.objs.size }).get? s.heap.objs.size=some (dictOf [] 0):=(ia _ _ (gq hel)).trans (fj _ rfl);have e2:((s.heap.push { cls:=.type "dict",data:=.dict #[] }).update e λo=>{ o with dict:=some s.heap.objs.size }).get? e=some ⟨.ref 785,some s.heap.objs.size,fH t,#[]⟩:=g9 _ (ek _ he) rfl;refine AE (s:={ s with toks:=s.toks+1 }) e1 rfl () λh' t' k1 k2 k3=>hQ _ ?_;obtain⟨z1,z2⟩:=S.sat.lt (f7 s.heap.objs.size);have kb:∀ b o,b≠e->s.heap.get? b=some o->h'.get? b=some o:=λb o hbe q=>by rw[k1 b (gq (fy q))];exact(ia _ _ (gz hbe)).trans (ek _ q)
 refine⟨m,G,_,S.moved (S.sat.QE (d:=s.heap.objs.size) (.gY S.sat.stay kb hb) hP rfl z1 z2 ⟨t,?_,_,_,k3,?_⟩ rfl) rfl rfl⟩
 ·rw[k1 e (gq hel)];exact e2
 ·exact gO.put .nil hx _ _ _
theorem AU{e:Ad}{x:Nat}{v:Va}{name:Str}{fs:List (Nat × Va)}{Q':Unit->Sh->Prop}(Ex:rP K)(S:St c l P s)(O:bM c)(hP:P e=some (.jX 785 fs))(hf:cS x=true)(hx:x<58)(hz:fs.length<900)(hn:name=nm x)
  (hQ:∀ s',St c l (upd P e (.jX 785 (eH x (ab v) fs))) s'->Q' ⟨⟩ s'):wpAny (MM wd) A (setAttr (.ref e) name v) Q' E s:=by
 subst hn;obtain⟨m,G,D,S⟩:=S;obtain⟨hb,t,he,es,n,hd,hr⟩:=S.sat.rel e _ hP;have X:=O.X.keeps S.sat.stay;have I:InstAt s.heap e ⟨.ref 785,some (D e),fH t,#[]⟩ 785 (some (dictOf es n)):=⟨he,rfl,rfl,hd⟩
 refine set_plain X I Ex.sa (DL (s:={ s with toks:=s.toks+1 }) Ex X I (Ex.fl x hf) ?_);obtain⟨cd,hc,_,hcd⟩:=Ex.cls;refine af (aq (af (af (wpAny_loadPart he (af (looks_clsIn X hc _ _ _ _ (λj j e=>e) ?_))))));rw[hcd];refine aq (a:=some (D e)) ?_;refine AE (s:={ s with toks:=s.toks+1 }) hd hr.noRef (by rw[hr.len];exact ja hz) λh' t' k1 k2 k3=>hQ _ ?_;have hne:e≠D e:=λz=>by have:=S.sat.dn e _ hP rfl;rw[<-z,hP] at this;cases this
 refine⟨m,G,D,S.moved (S.sat.Jj (.gY S.sat.stay (λb o hbe q=>(k1 b hbe).trans q) (S.sat.dle e _ hP rfl)) hP rfl ⟨t,?_,_,_,k3,hr.put hx _ _ v⟩ rfl) rfl rfl⟩;rw[k1 e hne];exact he
theorem AS{e:Ad}{x:Nat}{v:Va}{name:Str}{fs:List (Nat × Va)}(Ex:rP K)(S:St c l P s)(O:bM c)(hP:P e=some (.exc 785 fs))(hf:cS x=true)(hx:x<58)(hn:name=nm x)(hg:eF x fs=some v)(hh:handedIn v=true)(hQ:Q v P):
  wpAny (MM wd) A (getAttr (.ref e) name true) (Ok c l Q) E s:=by
 subst hn;obtain⟨m,G,D,S⟩:=S;obtain⟨hb,vs,sl,he,es,n,hd,hr⟩:=S.sat.rel e _ hP;have X:=O.X.keeps S.sat.stay;have I:InstAt s.heap e ⟨.ref 785,some (D e),.fields vs,sl⟩ 785 (some (dictOf es n)):=⟨he,rfl,rfl,hd⟩
 obtain⟨r,hl,hv⟩:=hr.get hx;rw[hg] at hv;cases r with
 | none=>cases hv
 | some v'=>
  simp only[i7,je] at hv;have hf':findObj K 785 (some (dictOf es n)) (nm x)=some (.value v'):=findObj_own (by obtain⟨cd,hc,_,hd⟩:=Ex.cls;unfold hasDictIn;rw[hc];exact hd) (Ex.fl x hf) rfl hl;have hh':handedIn v'=true:=by rw[<-xD,hv];exact hh
  have done:∀ t',Ok c l Q v' { s with toks:=t' }:=λt'=>⟨P,⟨m,G,D,S.moved S.sat rfl rfl⟩,by rw[hv];exact hQ⟩
  clear S hv hQ hP hb hr;obtain⟨hp,g,dr,tk,os⟩:=s;have L0:=I.type (M:=MM wd);have L1:=looks_findIn (M:=MM wd) X Ex.ga;have L2:=looks_findIn (M:=MM wd) X Ex.gt;have L3:=looks_find (M:=MM wd) X I hf';have sub:Looks (MM wd) hp (isInstance (.ref e) (.type "BaseException")) true:=I.type.andThen (DC (s:=⟨hp,g,dr,tk,os⟩) Ex X ());have f3:=PySem.F.attr_ValueError.ga.bind (.ref e);unfold getAttr getAttrBy;refine af (wpAny_mkText (ay (af (L0.at (af (L1.at ?_))))));show wpAny _ _ (getAttrByItsOwn _ _ _ _ _ _) _ _ _;unfold getAttrByItsOwn;refine af (L2.at ?_);refine af (wpAny_attempt (ay ?_));show wpAny _ _ (boundAndCalled _ _ _) _ _ _;unfold boundAndCalled;rw[f3];refine af (aq ?_);refine wpAny_call (codeAny_call_builtin PySem.F.attr_ValueError.ga.plain PySem.F.entry_bexc_ga (@check_slot (MM wd) _ _ _ "BaseException.__getattribute__" "BaseException" "__getattribute__" (.ref e) [.str (nm x) tk] [] _ ⋯ ⋯ sub (PySem.F.args_bexc_ga (.ref e) (.str (nm x) tk)) ?_));unfold Builtin.«object.__getattribute__»;refine af (aq (af (aq (af (L0.at (af (L3.at ?_)))))));refine aq ?_;show wpAny _ _ (handedOut v') _ _ _;rw[handedOut_of hh'];exact aq (done _)
end
section
open PySem.Builtin
noncomputable abbrev kO:List Va:=[.ref 765,.type "ValueError",.type "Exception",.type "BaseException",.type "object"]
noncomputable abbrev JU:Obj:=excClassObj "Raised" "Raised" 785 784 [.ref 765] kO true [] [] false none none (some (.ref 769)) none (some (.str "Raised" 1328)) (some (.str "Raised" 1336)) (some (.bool true)) "ValueError.__new__"
def fE(h:Heap):Prop:=h.get? 785=some JU
theorem fE.keeps{h h':Heap}(x:fE h)(k:gS h h'):fE h':=k _ _ x
variable{M:Model}{A:Around}{E:VS}{h:Heap}{g:Array GenState}{d:Drawn}{t:Nat}{os:OsState}
theorem yo{rest:List Va}{Q:Unit->Sh->Prop}(hC:fE h)(hq:Q ⟨⟩ ⟨h,g,d,t,os⟩):wpAny M A (checkBuiltinCall "ValueError.__new__" ⟨.ref 785::rest,[]⟩) Q E ⟨h,g,d,t,os⟩:=by
 have hC:h.get? 785=some JU:=hC;have Fn:=jf;have hcont:(Value.ref 785::kO).contains (.type "ValueError")=true:=by decide
 have hstar:=Fn.noStar;have h1:=Fn.newKind;have h2:=Fn.newSplit;have h3:=Fn.newRow;clear Fn;delta checkBuiltinCall;generalize builtinKind "ValueError.__new__"=k1 at h1 ⊢;generalize splitId "ValueError.__new__"=k2 at h2 ⊢;generalize Manifest.signature? "ValueError.__new__"=k3 at h3 ⊢;subst h3 h1 h2;dsimp only
 repeat (first|refine bh hC ?_|(refine b8 hC ?_;rw[hcont])|refine wpAny_staticBase_exc hC ?_|refine wpAny_madeBy_exc hC ?_|simp only[bne_self_eq_false,Bool.false_eq_true,if_false]|wp_step)
 exact hq
variable{R:Result->Sh->Prop}
theorem Ah{rest:List Va}(hC:fE h)
  (hq:R (.ok (.ret (.ref (h.objs.size+1)))) ⟨(h.push { cls:=.type "tuple",data:=.seq rest.toArray }).push { cls:=.ref 785,data:=.fields #[.ref h.objs.size,.none,.none,.none,.bool false,.none] },g,d,t,os⟩) (hrest:rest.length<=sizeLine):
  codeAny (model pw wd) A (.builtin "ValueError.__new__" ⟨.ref 785::rest,[]⟩) R ⟨h,g,d,t,os⟩:=by
 have hC:h.get? 785=some JU:=hC;have Fn:=jf;have hends:=Fn.ends;have hcB:(Value.ref 785::kO).contains (.type "ValueError")=true:=by decide
 have hcA:(Value.ref 785::kO).contains (.type "AttributeError")=false:=by decide
 have hcN:(Value.ref 785::kO).contains (.type "NameError")=false:=by decide
 refine codeAny_builtinAt Fn.entry ?_;unfold Builtin.«BaseException.__new__»;refine PySem.wpAt_bind ?_;show PySem.wpAt _ _ _ (stack>>=_) _ _ _;refine PySem.wpAt_bind (PySem.wpAt_stack λp below=>PySem.wpAt_of_wpAny ?_)
 wp_walk
 refine PySem.wpAt_of_wpAny ?_;rw[Fn.owner]
 repeat (first|with_reducible refine wpAny_madeHere_exc Fn.canon hC ?_|with_reducible refine bh hC ?_|(with_reducible refine b8 hC ?_;first|rw[hcB]|rw[hcA]|rw[hcN])|wp_step)
 show R _ _;rw[jc];exact hq
theorem zw{K:Frag}{rest:List Va}{f:Ad}{Q:Fin->Sh->Prop}(X:K.In h)(hi:findIn K (.ref 785) "__init__"=some (some (.ref f)))(hf:typeIn K (.ref f)=some (.type "function"))(hC:fE h)(hrest:rest.length<=sizeLine)
  (hq:∀ h',gS h h'->h.objs.size+2=h'.objs.size->h'.get? (h.objs.size+1)=some (⟨.ref 785,none,.fields #[.ref h.objs.size,.none,.none,.none,.bool false,.none],#[]⟩:Obj)->wpAny (model pw wd) A (call (.ref f) (.ref (h.objs.size+1)::rest)) (λr s'=>r=.none/\Q (.done (.ret (.ref (h.objs.size+1)))) s') E ⟨h',g,d,t,os⟩):
  wpAny (model pw wd) A (Builtin.«type.__call__» ⟨.ref 785::rest,[]⟩) Q E ⟨h,g,d,t,os⟩:=by
 have hC':h.get? 785=some JU:=hC;have Fn:=jf
 repeat (first|with_reducible refine bh hC' ?_|with_reducible refine wpAny_madeBy_exc hC' ?_|wp_step)
 refine codeAny_call_builtin_code (Code.quiet_builtin _ Fn.quiet) (yo hC ?_);refine Ah hC ?_ hrest;show wpAny _ _ _ _ _ _;have kk:gS h ((h.push { cls:=.type "tuple",data:=.seq rest.toArray }).push { cls:=.ref 785,data:=.fields #[.ref h.objs.size,.none,.none,.none,.bool false,.none] }):=λb o e=>ek _ (ek _ e);have QN:=kk _ _ hC'
 have hget:((h.push { cls:=.type "tuple",data:=.seq rest.toArray }).push { cls:=.ref 785,data:=.fields #[.ref h.objs.size,.none,.none,.none,.bool false,.none] }).get? (h.objs.size+1)=some
   {cls:=.ref 785,data:=.fields #[.ref h.objs.size,.none,.none,.none,.bool false,.none] }:=by heap_get
 have hcC:(Value.ref 785::kO).contains (.ref 785)=true:=by decide
 have J0:=X.keeps kk;unfold isInstance
 repeat (first|with_reducible refine bh hget ?_|(with_reducible refine b8 QN ?_;rw[hcC])|wp_step)
 show wpAny _ _ (typeLookup (.ref 785) _) _ _ _;refine(looks_findIn J0 hi).at ?_;refine ay (af ((bind_fn J0 _ hf).at ?_));refine af (ak (hq _ kk (by simp only[jc]) hget) (λr s' hr=>?_) λq q x=>x);obtain⟨rfl,hQ⟩:=hr
 wp_walk
 exact hQ
theorem Kn{K:Frag}{rest:List Va}{f:Ad}{Q:VS}(X:K.In h)(hi:findIn K (.ref 785) "__init__"=some (some (.ref f)))(hf:typeIn K (.ref f)=some (.type "function"))(hC:fE h)(hrest:rest.length<=sizeLine)
  (hq:∀ h',gS h h'->h.objs.size+2=h'.objs.size->h'.get? (h.objs.size+1)=some (⟨.ref 785,none,.fields #[.ref h.objs.size,.none,.none,.none,.bool false,.none],#[]⟩:Obj)->wpAny (model pw wd) (A.under (.builtin "type.__call__" ⟨.ref 785::rest,[]⟩)) (call (.ref f) (.ref (h.objs.size+1)::rest)) (λr s'=>r=.none/\Q (.ref (h.objs.size+1)) s') E ⟨h',g,d,t,os⟩):
  wpAny (model pw wd) A (call (.ref 785) rest) Q E ⟨h,g,d,t,os⟩:=by
 have hC':h.get? 785=some JU:=hC;have f1:=tc_lookup;have f2:=tc_bind (.ref 785);have hT:(⟨h,g,d,t,os⟩:Sh).TypeIs (.ref 785) "type":=⟨_,hC',rfl⟩
 refine wpAny_call (codeAny_of_tree ?_);show wpAny _ _ (callAny (.ref 785) _) _ _ _
 repeat (any_goals (first|assumption|with_reducible refine bh hC' ?_|wp_step))
 refine⟨rfl,?_⟩;exact codeAny_call_builtin_at (Code.quiet_builtin _ ⋯) entry_typeCall (wpAny_check_type_call_sub hC' (zw X hi hf hC hrest hq))
end
def Calls(n:Nat)(f:Ad)(vs:List Va)(P:PH)(X:Ad->PH->Prop)(Q:Va->PH->Prop):Prop:=∀ c l s args,bM c->bP n c.A->St c l P s->args.map ab=vs->codeAny (MM wd) c.A (.call (.ref f) ⟨args,[]⟩) (CP c l X Q) s
noncomputable def rd(P:PH)(a:Ad):Op PO:=match P a with
 | some o=>some o
 | none=>nQ a
def iC(P:PH):Prop:=∀ a o,P a=some o->nQ a=none
noncomputable def aR(k:Str):List (Str × Va)->Op Va
 | []=>none
 | e::r=>if e.1=k then some e.2 else aR k r
noncomputable def cT(k:Str)(v:Va):List (Str × Va)->List (Str × Va)
 | []=>[(k,v)]
 | e::r=>if e.1=k then(e.1,v)::r else e::cT k v r
theorem tB{k:Str}{v:Va}{e:Str × Va}{r:List (Str × Va)}:cT k v (e::r)=if e.1=k then(e.1,v)::r else e::cT k v r:=rfl
theorem KP{k:Str}{e:Str × Va}{r:List (Str × Va)}:aR k (e::r)=if e.1=k then some e.2 else aR k r:=rfl
noncomputable def uR(k:Str)(l:List (Str × Va)):List (Str × Va):=l.filter λe=>decide (e.1≠k)
noncomputable def Uk(a:Int):Va->Op Bool
 | .int b _=>some (decide (a=b))
 | .none=>some false
 | .str ..=>some false
 | _=>none
noncomputable def Ul(a:Str):Va->Op Bool
 | .str b _=>some (decide (a=b))
 | .none=>some false
 | .int ..=>some false
 | _=>none
noncomputable def eqB(a:Bool):Va->Op Bool
 | .bool b=>some (a==b)
 | _=>none
noncomputable def Td:Va->Op Bool
 | .none=>some true
 | .int ..=>some false
 | .str ..=>some false
 | _=>none
noncomputable def eqv(a b:Va):Op Bool:=match a with
 | .int a _=>Uk a b
 | .str a _=>Ul a b
 | .bool a=>eqB a b
 | .none=>Td b
 | _=>none
noncomputable def QB(a b:Va):Op Bool:=match a with
 | .int a _=>(match b with
  | .int b _=>some (decide (a=b))
  | _=>none)
 | .str a _=>(match b with
  | .str b _=>some (decide (a=b))
  | _=>none)
 | .bool a=>eqB a b
 | _=>none
noncomputable def oO:List Va->List Va->Op Bool
 | [],[]=>some true
 | a::as,b::bs=>(QB a b).bind λx=>(oO as bs).map (x&&·)
 | _,_=>none
noncomputable def OS(vs:List Va)(o:Op PO):Op Bool:=match o with
 | some (.list _ us)=>if vs.length=us.length then(oO vs us).map (!·) else some true
 | _=>none
noncomputable def OU(vs:List Va)(o:Op PO):Op Bool:=match o with
 | some (.tup us)=>(oO vs us).map (!·)
 | _=>none
noncomputable def IC(o:Op PO):Op Bool:=match o with
 | some (.tup _)=>some true
 | _=>none
noncomputable def OT(o p:Op PO):Op Bool:=match o with
 | some (.list _ vs)=>OS vs p
 | some (.tup vs)=>OU vs p
 | _=>none
noncomputable def Vl(P:PH)(o:Op PO)(b:Va):Op Bool:=match b with
 | .ref y=>OT o (P y)
 | .none=>IC o
 | _=>none
noncomputable def neN(P:PH)(b:Va):Op Bool:=match b with
 | .ref x=>IC (P x)
 | b=>(Td b).map (!·)
noncomputable def Uw(P:PH)(a b:Va):Op Bool:=match a with
 | .ref x=>Vl P (P x) b
 | .none=>neN P b
 | a=>(eqv a b).map (!·)
noncomputable def fZ(k:Str):List Va->Op Bool
 | []=>some false
 | .str x _::r=>(fZ k r).map (decide (x=k)||·)
 | _=>none
noncomputable def inR(x:Str)(o:Op PO):Op Bool:=match o with
 | some (.dict _ kvs)=>some (aR x kvs).isSome
 | some (.list _ vs)=>fZ x vs
 | some (.tup vs)=>fZ x vs
 | _=>none
noncomputable def Vc(x:Str)(P:PH)(b:Va):Op Bool:=match b with
 | .ref d=>inR x (rd P d)
 | .str y _=>if y=("ABCDEFGHIJKLMNOPQRSTUVWXYZ":Str)/\(x=("K":Str)\/x=("L":Str)) then some true else none
 | _=>none
noncomputable def PU(P:PH)(k b:Va):Op Bool:=match k with
 | .str x _=>Vc x P b
 | _=>none
noncomputable def eV:List (Ad × List Ad):=[(40,[40]),(62,[62,40]),(82,[82,40]),(181,[181,40]),(228,[228,40]),(256,[256]),(1055,[1055])]
noncomputable def lC(C B:Ad):Bool:=match eV.lookup C with
 | some l=>l.contains B
 | none=>false
noncomputable def C7(B:Ad):Bool:=[40,62,82,120,140,161,181,201,228].contains B
noncomputable def big:Nat:=100000
abbrev VQ:=Va->PH->Prop
def xj(r:Op Bool)(P:PH)(Q:VQ):Prop:=match r with
 | some b=>Q (.bool b) P
 | none=>False
def cE(P:PH)(o:PO)(Q:VQ):Prop:=∀ a,P a=none->Q (.ref a) (upd P a o)
def iB(a:Ad)(x:Nat)(P:PH)(Q:VQ):Prop:=match P a with
 | some (.inst C fs)=>gQ C x=true/\(match eF x fs with
  | some v=>handedIn v=true/\Q v P
  | none=>False)
 | some (.exc C fs)=>(C=785/\cS x=true)/\(match eF x fs with
  | some v=>handedIn v=true/\Q v P
  | none=>False)
 | _=>False
def vR(a:Ad)(x:Nat)(v:Va)(P:PH)(Q:PH->Prop):Prop:=match P a with
 | some (.inst C fs)=>gQ C x=true/\fs.length<900/\Q (upd P a (.inst C (eH x v fs)))
 | some (.raw C)=>(C=785/\cS x=true)/\Q (upd P a (.jX C [(x,v)]))
 | some (.jX C fs)=>(C=785/\cS x=true/\fs.length<900)/\Q (upd P a (.jX C (eH x v fs)))
 | _=>False
noncomputable def kZ:Va->Bool
 | .builtin _=>false
 | _=>true
noncomputable def isNone:Va->Bool
 | .none=>true
 | _=>false
noncomputable def zo:List Va->Op Int
 | []=>some 0
 | .int i _::r=>(zo r).map (i+·)
 | _=>none
def AQ(v:Va)(F:Int->Prop):Prop:=match v with
 | .int i _=>F i
 | _=>False
def JW(v:Va)(F:Str->Prop):Prop:=match v with
 | .str x _=>F x
 | _=>False
def vP(v:Va)(F:Ad->Prop):Prop:=match v with
 | .ref a=>F a
 | _=>False
def UA(v:Va)(F:Bool->Prop):Prop:=match v with
 | .bool b=>F b
 | _=>False
def TS(v:Va)(F:Prop):Prop:=match v with
 | .none=>F
 | _=>False
def PS(v:Va)(f:Int->Prop)(g:Str->Prop)(h:Ad->Prop):Prop:=match v with
 | .int i _=>f i
 | .str x _=>g x
 | .ref a=>h a
 | _=>False
def SW(v:Va)(n:Prop)(b i s:Prop)(h:Ad->Prop):Prop:=match v with
 | .none=>n
 | .bool _=>b
 | .int ..=>i
 | .str ..=>s
 | .ref a=>h a
 | _=>False
def yY(vs:List Va)(F:Va->List Va->Prop):Prop:=match vs with
 | a::r=>F a r
 | []=>False
def TQ(vs:List Va)(F:Prop):Prop:=match vs with
 | []=>F
 | _::_=>False
def Cm(vs:List Va)(F:Va->Prop):Prop:=yY vs λa r=>TQ r (F a)
def tL(vs:List Va)(F:Va->Va->Prop):Prop:=yY vs λa r=>Cm r (F a)
def Uz(vs:List Va)(F:Va->Va->Va->Prop):Prop:=yY vs λa r=>tL r (F a)
def Bv{α:Type}(o:Op α)(F:α->Prop):Prop:=match o with
 | some x=>F x
 | none=>False
def Cn(o:Op PO)(F:Nat × Nat->List Va->Prop):Prop:=match o with
 | some (.list t vs)=>F t vs
 | _=>False
def DJ(o:Op PO)(F:List (Str × Va)->Prop):Prop:=match o with
 | some (.dict _ kvs)=>F kvs
 | _=>False
def TR(o:Op PO)(F:Ad->Prop):Prop:=match o with
 | some (.inst C _)=>F C
 | _=>False
def UC(o:Op PO)(F:Ad->Prop):Prop:=match o with
 | some (.raw C)=>F C
 | _=>False
def Ka(o:Op PO)(F G:List Va->Prop):Prop:=match o with
 | some (.list _ vs)=>F vs
 | some (.tup vs)=>G vs
 | _=>False
def Mx(o:Op PO)(F G:List Va->Prop)(H:List (Str × Va)->Prop):Prop:=match o with
 | some (.list _ vs)=>F vs
 | some (.tup vs)=>G vs
 | some (.dict _ kvs)=>H kvs
 | _=>False
def pq(o i v:Va)(P:PH)(Q:PH->Prop):Prop:=vP o λa=>PS i (λk=>Cn (P a) λt vs=>(0<=k/\k.toNat<vs.length/\vs.length<big)/\Q (upd P a (.list t (vs.set k.toNat v))))
 (λk=>DJ (P a) λkvs=>kvs.length<big/\Q (upd P a (.dict (0,0) (cT k v kvs)))) λq=>False
def bD(p:Prim)(vs:List Va)(P:PH)(Q:VQ):Prop:=match p with
 | .is=>tL vs λa b=>TS b (kZ a=true/\Q (.bool (isNone a)) P)
 | .isnot=>tL vs λa b=>TS b (kZ a=true/\Q (.bool (!isNone a)) P)
 | .eq=>tL vs λa b=>xj (eqv a b) P Q
 | .ne=>tL vs λa b=>xj (Uw P a b) P Q
 | .lt=>tL vs λa b=>AQ a λa=>AQ b λb=>Q (.bool (decide (a<b))) P
 | .gt=>tL vs λa b=>AQ a λa=>AQ b λb=>Q (.bool (decide (b<a))) P
 | .isin=>tL vs λa b=>iC P->xj (PU P a b) P Q
 | .notin=>tL vs λa b=>iC P->xj ((PU P a b).map (!·)) P Q
 | .add=>tL vs λa b=>PS a (λa=>AQ b λb=>Q (.int (a+b) 0) P) (λa=>JW b λb=>(a.length<big/\b.length<big)/\Q (.str (a++b) 0) P)
  λa=>vP b λb=>Cn (P a) λq vs=>Cn (P b) λq us=>(vs.length<big/\us.length<big)/\cE P (.list (0,0) (vs++us)) Q
 | .mul=>tL vs λa b=>AQ a λa=>AQ b λb=>b.natAbs<2^60/\Q (.int (a*b) 0) P
 | .mod=>tL vs λa b=>AQ a λa=>AQ b λb=>0<b/\Q (.int (a%b) 0) P
 | .fdiv=>tL vs λa b=>AQ a λa=>AQ b λb=>(0<b/\b<2^60)/\Q (.int (a/b) 0) P
 | .pow=>tL vs λa b=>AQ a λa=>AQ b λb=>(a=10/\b=30)/\Q (.int (10^30) 0) P
 | .tup=>vs.length<big/\cE P (.tup vs) Q
 | .list=>vs.length<big/\cE P (.list (0,0) vs) Q
 | .dict0=>TQ vs (cE P (.dict (0,0) []) Q)
 | .item=>tL vs λo i=>PS o (λq=>False) (λx=>AQ i λi=>(i=0/\(x="K"\/x="L"))/\Q (.str x 0) P)
  λa=>PS i (λi=>Ka (P a) (λvs=>0<=i/\i<2^62/\Bv vs[i.toNat]? λv=>Q v P) λvs=>0<=i/\i<2^62/\Bv vs[i.toNat]? λv=>Q v P)
   (λk=>iC P->DJ (rd P a) λkvs=>Bv (aR k kvs) λv=>Q v P) λq=>False
 | .rev=>Cm vs λa=>vP a λa=>Cn (P a) λq vs=>vs.length<big/\cE P (.list (0,0) vs.reverse) Q
 | .upto=>tL vs λa k=>vP a λa=>AQ k λk=>iC P->Cn (rd P a) λq vs=>(vs.length<big/\0<=k/\k<big)/\cE P (.list (0,0) (vs.take k.toNat)) Q
 | .from1=>Cm vs λa=>PS a (λq=>False) (λx=>(x="K"\/x="L")/\Q (.str "" 0) P) λa=>Cn (P a) λq vs=>vs.length<big/\cE P (.list (0,0) (vs.drop 1)) Q
 | .len=>Cm vs λa=>vP a λa=>iC P->Cn (rd P a) λq vs=>vs.length<big/\Q (.int vs.length 0) P
 | .abs=>Cm vs λa=>AQ a λa=>Q (.int a.natAbs 0) P
 | .int=>Cm vs λa=>UA a λb=>Q (.int (if b then 1 else 0) 0) P
 | .sum=>Cm vs λa=>vP a λa=>Cn (P a) λq vs=>vs.length<big/\Bv (zo vs) λi=>Q (.int i 0) P
 | .listof=>Cm vs λa=>vP a λa=>Mx (P a) (λvs=>vs.length<big/\cE P (.list (0,0) vs) Q) (λvs=>vs.length<big/\cE P (.list (0,0) vs) Q)
  λkvs=>kvs.length<big/\cE P (.list (0,0) (kvs.map λe=>.str e.1 0)) Q
 | .dictof=>Cm vs λa=>vP a λa=>DJ (P a) λkvs=>kvs.length<big/\cE P (.dict (0,0) kvs) Q
 | .itemsdict=>Cm vs λa=>vP a λa=>DJ (P a) λkvs=>kvs.length<big/\cE P (.dict (0,0) kvs) Q
 | .jH t=>Cm vs λv=>SW v (Q (.bool false) P) (Q (.bool (t=="bool"||t=="int")) P) (Q (.bool (t=="int")) P) (Q (.bool (t=="str")) P) λa=>TR (P a) λC=>(eV.lookup C).isSome=true/\Q (.bool false) P
 | .isinst B=>Cm vs λv=>C7 B=true/\SW v (Q (.bool false) P) (Q (.bool false) P) (Q (.bool false) P) (Q (.bool false) P) λa=>TR (P a) λC=>(eV.lookup C).isSome=true/\Q (.bool (lC C B)) P
 | .upper=>Cm vs λa=>JW a λx=>x="abcdefghijklmnopqrstuvwxyz"/\Q (.str "ABCDEFGHIJKLMNOPQRSTUVWXYZ" 0) P
 | .split=>tL vs λa b=>JW a λx=>JW b λy=>(y="::"/\(x="K"\/x="L"))/\cE P (.list (0,0) [.str x 0]) Q
 | .qR=>tL vs λa k=>vP a λa=>JW k λk=>DJ (P a) λkvs=>Q ((aR k kvs).getD .none) P
 | .uI=>Uz vs λa k d=>vP a λa=>JW k λk=>iC P->DJ (rd P a) λkvs=>Q ((aR k kvs).getD d) P
 | .pop=>tL vs λa k=>vP a λa=>JW k λk=>DJ (P a) λkvs=>kvs.length<big/\Bv (aR k kvs) λv=>Q v (upd P a (.dict (0,0) (uR k kvs)))
 | .append=>tL vs λa v=>vP a λa=>Cn (P a) λt vs=>vs.length<big/\Q .none (upd P a (.list t (vs++[v])))
 | .vinit=>tL vs λa q=>vP a λa=>UC (P a) λC=>C=785/\Q .none P
 | .extend=>tL vs λa b=>vP a λa=>vP b λb=>Cn (P a) λt vs=>Cn (P b) λq us=>(a≠b/\vs.length<big/\us.length<big)/\Q .none (upd P a (.list t (vs++us)))
 | .enum=>False
 | .range=>False
def Ot(p:Prim)(v:Va)(P:PH):Prop:=match p with
 | .qR=>vP v λa=>DJ (P a) λq=>True
 | .pop=>vP v λa=>DJ (P a) λq=>True
 | .uI=>vP v λa=>iC P->DJ (rd P a) λq=>True
 | .append=>vP v λa=>Cn (P a) λq q=>True
 | .extend=>vP v λa=>Cn (P a) λq q=>True
 | .upper=>JW v λq=>True
 | .split=>JW v λq=>True
 | _=>False
theorem vq{vs:List Va}{F:Va->List Va->Prop}(h:yY (vs.map ab) F):∃ v r,vs=v::r/\F (ab v) (r.map ab):=by
 rcases vs with _|⟨v,r⟩
 ·exact ck h
 ·exact⟨v,r,rfl,h⟩
theorem DH{vs:List Va}{F:Prop}(h:TQ (vs.map ab) F):vs=[]/\F:=by
 rcases vs with _|⟨v,r⟩
 ·exact⟨rfl,h⟩
 ·exact ck h
theorem dK{a:Va}{F:Int->Prop}(h:AQ (ab a) F):∃ i t,a=.int i t/\F i:=by cases a<;>first|exact ck h|exact⟨_,_,rfl,h⟩
theorem iN{a:Va}{F:Str->Prop}(h:JW (ab a) F):∃ i t,a=.str i t/\F i:=by cases a<;>first|exact ck h|exact⟨_,_,rfl,h⟩
theorem cC{a:Va}{F:Ad->Prop}(h:vP (ab a) F):∃ i,a=.ref i/\F i:=by cases a<;>first|exact ck h|exact⟨_,rfl,h⟩
theorem Lh{a:Va}{F:Bool->Prop}(h:UA (ab a) F):∃ i,a=.bool i/\F i:=by cases a<;>first|exact ck h|exact⟨_,rfl,h⟩
theorem DK{a:Va}{F:Prop}(h:TS (ab a) F):a=.none/\F:=by cases a<;>first|exact ck h|exact⟨rfl,h⟩
theorem pK{a:Va}{f:Int->Prop}{g:Str->Prop}{k:Ad->Prop}(h:PS (ab a) f g k):(∃ i t,a=.int i t/\f i)\/(∃ x t,a=.str x t/\g x)\/∃ i,a=.ref i/\k i:=by cases a<;>first|exact ck h|exact .inl ⟨_,_,rfl,h⟩|exact .inr (.inl ⟨_,_,rfl,h⟩)|exact .inr (.inr ⟨_,rfl,h⟩)
theorem C3{a:Va}{n b i s:Prop}{k:Ad->Prop}(h:SW (ab a) n b i s k):(a=.none/\n)\/(∃ x,a=.bool x/\b)\/(∃ x t,a=.int x t/\i)\/(∃ x t,a=.str x t/\s)\/∃ x,a=.ref x/\k x:=by cases a<;>first|exact ck h|exact .inl ⟨rfl,h⟩|exact .inr (.inl ⟨_,rfl,h⟩)|exact .inr (.inr (.inl ⟨_,_,rfl,h⟩))|exact .inr (.inr (.inr (.inl ⟨_,_,rfl,h⟩)))|exact .inr (.inr (.inr (.inr ⟨_,rfl,h⟩)))
theorem qj{α:Type}{o:Op α}{F:α->Prop}(h:Bv o F):∃ x,o=some x/\F x:=by cases o<;>first|exact ck h|exact⟨_,rfl,h⟩
theorem fB{o:Op PO}{F:Nat × Nat->List Va->Prop}(h:Cn o F):∃ t vs,o=some (.list t vs)/\F t vs:=by
 obtain _|o:=o
 ·exact ck h
 ·cases o<;>first|exact ck h|exact⟨_,_,rfl,h⟩
theorem iM{o:Op PO}{F:List (Str × Va)->Prop}(h:DJ o F):∃ t vs,o=some (.dict t vs)/\F vs:=by
 obtain _|o:=o
 ·exact ck h
 ·cases o<;>first|exact ck h|exact⟨_,_,rfl,h⟩
theorem DI{o:Op PO}{F:Ad->Prop}(h:TR o F):∃ C fs,o=some (.inst C fs)/\F C:=by
 obtain _|o:=o
 ·exact ck h
 ·cases o<;>first|exact ck h|exact⟨_,_,rfl,h⟩
theorem Lk{o:Op PO}{F:Ad->Prop}(h:UC o F):∃ C,o=some (.raw C)/\F C:=by
 obtain _|o:=o
 ·exact ck h
 ·cases o<;>first|exact ck h|exact⟨_,rfl,h⟩
theorem Ec{o:Op PO}{F G:List Va->Prop}{H:List (Str × Va)->Prop}(h:Mx o F G H):(∃ t vs,o=some (.list t vs)/\F vs)\/(∃ vs,o=some (.tup vs)/\G vs)\/∃ t vs,o=some (.dict t vs)/\H vs:=by
 obtain _|o:=o
 ·exact ck h
 ·cases o<;>first|exact ck h|exact .inl ⟨_,_,rfl,h⟩|exact .inr (.inl ⟨_,rfl,h⟩)|exact .inr (.inr ⟨_,_,rfl,h⟩)
theorem GL{o:Op PO}{F G:List Va->Prop}(h:Ka o F G):(∃ t vs,o=some (.list t vs)/\F vs)\/∃ vs,o=some (.tup vs)/\G vs:=by
 obtain _|o:=o
 ·exact ck h
 ·cases o<;>first|exact ck h|exact .inl ⟨_,_,rfl,h⟩|exact .inr ⟨_,rfl,h⟩
section
variable(n:Nat)
abbrev XP:=Ad->PH->Prop
def oA:XP:=λq q=>False
def aV(v:Va)(t f:Prop):Prop:=match v with
 | .bool true=>t
 | .bool false=>f
 | _=>False
noncomputable def xH(step:Va->PH->(Op Va->PH->Prop)->Prop)(guard:PH->Prop):List Va->List Va->PH->(List Va->PH->Prop)->Prop
 | [],acc,P,k=>k acc P
 | v::vs,acc,P,k=>step v P λr P'=>guard P'/\xH step guard vs (match r with|some x=>acc++[x]|none=>acc) P' k
noncomputable def lG(caps:List (Op Nat))(l:Lv):Lv:=caps.map λo=>o.bind λi=>(l[i]?).join
noncomputable abbrev LV:=Lv
abbrev LQ:=List Va->PH->Prop
abbrev EF:=PH->XP->VQ->Prop
abbrev AF:=PH->XP->LQ->Prop
def Qi(x:Nat)(Q:VQ)(v:Va)(P:PH):Prop:=match v with
 | .ref a=>iB a x P Q
 | _=>False
def MA(f:Ad)(X:XP)(Q:VQ)(vs:List Va)(P:PH):Prop:=Calls n f vs P X Q
def NK(f a:Ad)(X:XP)(Q:VQ)(vs:List Va)(P:PH):Prop:=Calls n f (.ref a::vs) P X Q
def Rc(m:Nat)(F:AF)(X:XP)(Q:VQ)(v:Va)(P:PH):Prop:=match v with
 | .ref a=>(match P a with
  | some (.inst C fs)=>(match bO C m with
   | some f=>(match bL m with
    | some x=>eF x fs=none
    | none=>True)/\F P X (NK n f a X Q)
   | none=>False)
  | _=>False)
 | _=>False
def NJ(as:TL)(F:AF)(X:XP)(Q:VQ)(v:Va)(P:PH):Prop:=match v with
 | .ref f=>(yc.contains f=true\/(as=.nil/\∃ k vs,P f=some (.lam k vs)))/\F P X (MA n f X Q)
 | _=>False
def Ra(a:Ad)(Q:VQ)(v:Va)(P:PH):Prop:=v=.none/\Q (.ref a) P
def MY(C:Ad)(X:XP)(Q:VQ)(vs:List Va)(P:PH):Prop:=match bO C 99,n with
 | some f,k+1=>∀ a,P a=none->Calls k f (.ref a::vs) (upd P a (.inst C [])) X (Ra a Q)
 | _,_=>False
def M9(p:Prim)(Q:VQ)(vs:List Va)(P:PH):Prop:=bD p vs P Q
def MC(v:Va)(Q:LQ)(vs:List Va)(P:PH):Prop:=Q (v::vs) P
def Qv(F:AF)(X:XP)(Q:LQ)(v:Va)(P:PH):Prop:=F P X (MC v Q)
def U0(p:Prim)(F:AF)(X:XP)(Q:VQ)(v:Va)(P:PH):Prop:=Ot p v P/\F P X (MC v (M9 p Q))
def SK(F:EF)(X:XP)(Q:VQ)(v:Va)(P:PH):Prop:=aV v (F P X Q) (Q (.bool false) P)
def Vt(F:EF)(X:XP)(Q:VQ)(v:Va)(P:PH):Prop:=aV v (Q (.bool true) P) (F P X Q)
def TM(Q:VQ)(v:Va)(P:PH):Prop:=aV v (Q (.bool false) P) (Q (.bool true) P)
def Vb(F G:EF)(X:XP)(Q:VQ)(v:Va)(P:PH):Prop:=aV v (F P X Q) (G P X Q)
def Vg(r:Op Va->PH->Prop)(v:Va)(P:PH):Prop:=r (some v) P
def Ve(F:EF)(r:Op Va->PH->Prop)(b:Va)(P:PH):Prop:=aV b (F P oA (Vg r)) (r none P)
def MX(et ee:LV->EF)(k:Nat)(l:LV)(v:Va)(P:PH)(r:Op Va->PH->Prop):Prop:=et (l.set k (some v)) P oA (Ve (ee (l.set k (some v))) r)
def UD(a:Ad)(o:PO)(P:PH):Prop:=iC P->rd P a=some o
def Q8(Q:VQ)(acc:List Va)(P:PH):Prop:=cE P (.list (0,0) acc) Q
def Vf(et ee:LV->EF)(k:Nat)(l:LV)(Q:VQ)(v:Va)(P:PH):Prop:=iC P->match v with
 | .ref a=>(match rd P a with
  | some (.list t vs)=>vs.length<big/\xH (MX et ee k l) (UD a (.list t vs)) vs [] P (Q8 Q)
  | some (.tup vs)=>vs.length<big/\xH (MX et ee k l) (UD a (.tup vs)) vs [] P (Q8 Q)
  | _=>False)
 | _=>False
def Qw(ks:List Str)(d:Ad)(Q:VQ)(vs:List Va)(P:PH):Prop:=vs.length=ks.length/\P d=some (.dict (0,0) [])/\Q (.ref d) (upd P d (.dict (0,0) (ks.zip vs)))
mutual
noncomputable def bE:T->Lv->PH->XP->VQ->Prop
 | .con v,_,P,_,Q=>Q v P
 | .loc i,l,P,_,Q=>match l[i]? with
  | some (some v)=>Q v P
  | _=>False
 | .attr o x,l,P,X,Q=>bE o l P X (Qi x Q)
 | .aS o m as,l,P,X,Q=>bE o l P X (Rc n m (Gi as l) X Q)
 | .call f as,l,P,X,Q=>Gi as l P X (MA n f X Q)
 | .Ac f as,l,P,X,Q=>bE f l P X (NJ n as (Gi as l) X Q)
 | .make C as,l,P,X,Q=>Gi as l P X (MY n C X Q)
 | .prim p as,l,P,X,Q=>Gi as l P X (M9 p Q)
 | .bm p o as,l,P,X,Q=>bE o l P X (U0 p (Gi as l) X Q)
 | .and a b,l,P,X,Q=>bE a l P X (SK (bE b l) X Q)
 | .or a b,l,P,X,Q=>bE a l P X (Vt (bE b l) X Q)
 | .not a,l,P,X,Q=>bE a l P X (TM Q)
 | .bF c a b,l,P,X,Q=>bE c l P X (Vb (bE a l) (bE b l) X Q)
 | .lc caps k it elt test,l,P,X,Q=>bE it l P X (Vf (bE test) (bE elt) k (lG caps l) Q)
 | .lam k is b,l,P,_,Q=>b=yJ k/\∃ vs,is.map (λi=>(l[i]?).join)=vs.map some/\match P (dO k) with
  | some (.tab es)=>(match es.lookup k with
   | some c=>P c=some (.code k)/\cE P (.lam k (.ref c::vs)) Q
   | none=>∀ c,P c=none->c≠dO k->cE (upd (upd P (dO k) (.tab (es++[(k,c)]))) c (.code k)) (.lam k (.ref c::vs)) Q)
  | _=>False
 | .Am ks as,l,P,X,Q=>(ks.Nodup/\0<ks.length/\ks.length<15)/\∀ d,P d=none->Gi as l (upd P d (.dict (0,0) [])) X (Qw ks d Q)
 | .bad,_,_,_,_=>False
noncomputable def Gi:TL->Lv->PH->XP->(List Va->PH->Prop)->Prop
 | .nil,_,P,_,Q=>Q [] P
 | .cons a r,l,P,X,Q=>bE a l P X (Qv (Gi r l) X Q)
end
noncomputable def cL(step:Va->Lv->PH->(NP)->Prop)(guard:PH->Prop):List Va->Lv->PH->(NP)->Prop
 | [],l,P,k=>k l P
 | v::vs,l,P,k=>step v l P λl' P'=>guard P'/\cL step guard vs l' P' k
noncomputable def xK(step:Nat->Lv->PH->(NP)->Prop):Nat->Nat->Lv->PH->(NP)->Prop
 | _,0,l,P,k=>k l P
 | i,n+1,l,P,k=>step i l P λl' P'=>xK step (i+1) n l' P' k
noncomputable def r8(cond:Lv->PH->VQ->Prop)(body:Lv->PH->(NP)->Prop):Nat->Lv->PH->(NP)->Prop
 | 0,_,_,_=>False
 | f+1,l,P,k=>cond l P λv P=>aV v (body l P λl' P'=>r8 cond body f l' P' k) (k l P)
noncomputable def sets:List Nat->List Va->Lv->Lv
 | i::is,v::vs,l=>sets is vs (l.set i (some v))
 | _,_,l=>l
noncomputable def itemsOf:PO->Op (List Va)
 | .list _ vs=>some vs
 | .tup vs=>some vs
 | _=>none
noncomputable def jV(cs:List Bool)(i:Nat)(P:PH):PH:=if cs.getD i false then bJ P else P
noncomputable def FP(cs:List Bool)(is:List Nat)(P:PH):PH:=is.foldl (λP i=>jV cs i P) P
abbrev NQ:=LV->PH->Prop
abbrev SF:=LV->PH->XP->NQ->VQ->Prop
def QC(l:LV)(N:NQ)(_:Va)(P:PH):Prop:=N l P
def SM(cs:List Bool)(i:Nat)(l:LV)(N:NQ)(v:Va)(P:PH):Prop:=N (l.set i (some v)) (jV cs i P)
def Qg(cs:List Bool)(is:List Nat)(l:LV)(N:NQ)(v:Va)(P:PH):Prop:=match v with
 | .ref a=>(match P a with
  | some (.tup vs)=>vs.length=is.length/\N (sets is vs l) (FP cs is P)
  | _=>False)
 | _=>False
def RM(x:Nat)(v:Va)(l:LV)(N:NQ)(u:Va)(P:PH):Prop:=match u with
 | .ref a=>vR a x v P (N l)
 | _=>False
def RN(o:T)(x:Nat)(l:LV)(X:XP)(N:NQ)(v:Va)(P:PH):Prop:=bE n o l P X (RM x v l N)
def R0(u v:Va)(l:LV)(N:NQ)(i:Va)(P:PH):Prop:=pq u i v P (N l)
def RZ(i:T)(v:Va)(l:LV)(X:XP)(N:NQ)(u:Va)(P:PH):Prop:=bE n i l P X (R0 u v l N)
def TY(o i:T)(l:LV)(X:XP)(N:NQ)(v:Va)(P:PH):Prop:=bE n o l P X (RZ n i v l X N)
def Qk(a:Ad)(x:Nat)(old:Va)(l:LV)(N:NQ)(v:Va)(P:PH):Prop:=match old,v with
 | .int i _,.int j _=>vR a x (.int (i+j) 0) P (N l)
 | _,_=>False
def Qj(a:Ad)(x:Nat)(v:T)(l:LV)(X:XP)(N:NQ)(old:Va)(P:PH):Prop:=bE n v l P X (Qk a x old l N)
def SN(x:Nat)(v:T)(l:LV)(X:XP)(N:NQ)(u:Va)(P:PH):Prop:=match u with
 | .ref a=>iB a x P (Qj n a x v l X N)
 | _=>False
def Ti(F G:SF)(l:LV)(X:XP)(N:NQ)(R:VQ)(v:Va)(P:PH):Prop:=aV v (F l P X N R) (G l P X N R)
def TX(G:SF)(X:XP)(N:NQ)(R:VQ)(l:LV)(P:PH):Prop:=G l P X N R
def Uq(cs:List Bool)(i:Nat)(F:SF)(X:XP)(R:VQ)(v:Va)(l:LV)(P:PH)(k:NQ):Prop:=F (l.set i (some v)) (jV cs i P) X k R
def TZ(a:Ad)(o:PO)(P:PH):Prop:=P a=some o
def Q7(cs:List Bool)(i:Nat)(F:SF)(l:LV)(X:XP)(N:NQ)(R:VQ)(v:Va)(P:PH):Prop:=match v with
 | .ref a=>(match P a with
  | some (.dict _ kvs)=>kvs.length<big/\∀ ep,cL (Uq cs i F X R) (TZ a (.dict (ep,1) kvs)) (kvs.map λe=>.str e.1 0) l (upd P a (.dict (ep,1) kvs)) N
  | some o=>(match itemsOf o with
   | some vs=>vs.length<big/\cL (Uq cs i F X R) (TZ a o) vs l P N
   | none=>False)
  | none=>False)
 | .str x _=>x=Str.empty/\N l P
 | _=>False
def OF(cs:List Bool)(i j:Nat)(F:SF)(l:LV)(X:XP)(N:NQ)(R:VQ)(v:Va)(P:PH):Prop:=match v with
 | .ref a=>(match P a with
  | some (.list t vs)=>vs.length<big/\cL (λv l P k=>match v with
    | .ref q=>F ((l.set i (some (.int q 0))).set j (some ((vs[q]?).getD .none))) (jV cs j (jV cs i P)) X k R
    | _=>False) (TZ a (.list t vs)) ((List.range vs.length).map .ref) l P N
  | _=>False)
 | _=>False
def OG(cs:List Bool)(i:Nat)(F:SF)(l:LV)(X:XP)(N:NQ)(R:VQ)(v:Va)(P:PH):Prop:=match v with
 | .int k _=>(0<=k/\k<big)/\xK (λq l P k=>F (l.set i (some (.int q 0))) (jV cs i P) X k R) 0 k.toNat l P N
 | _=>False
noncomputable def wpS(cs:List Bool):U->Lv->PH->XP->(NP)->VQ->Prop
 | .skip,l,P,_,N,_=>N l P
 | .expr t,l,P,X,N,_=>bE n t l P X (QC l N)
 | .dQ i t,l,P,X,N,_=>bE n t l P X (SM cs i l N)
 | .iG is t,l,P,X,N,_=>bE n t l P X (Qg cs is l N)
 | .bI o x v,l,P,X,N,_=>bE n v l P X (RN n o x l X N)
 | .mH o1 x1 o2 x2 v1 v2,l,P,X,N,_=>bE n v1 l P X λv1 P=>bE n v2 l P X λv2 P=>bE n o1 l P X λu P=>match u with
  | .ref a=>vR a x1 v1 P λP=>bE n o2 l P X λu P=>(match u with
   | .ref b=>vR b x2 v2 P (N l)
   | _=>False)
  | _=>False
 | .fD o i v,l,P,X,N,_=>bE n v l P X (TY n o i l X N)
 | .mK o1 i1 o2 i2 v1 v2,l,P,X,N,_=>bE n v1 l P X λv1 P=>bE n v2 l P X λv2 P=>bE n o1 l P X λu P=>bE n i1 l P X λi P=>pq u i v1 P λP=>bE n o2 l P X λu P=>bE n i2 l P X λi P=>pq u i v2 P (N l)
 | .aug o x v,l,P,X,N,_=>bE n o l P X (SN n x v l X N)
 | .bF c a b,l,P,X,N,R=>bE n c l P X (Ti (wpS cs a) (wpS cs b) l X N R)
 | .seq a b,l,P,X,N,R=>wpS cs a l P X (TX (wpS cs b) X N R) R
 | .ret t,l,P,X,_,R=>bE n t l P X R
 | .loop i it body,l,P,X,N,R=>bE n it l P X (Q7 cs i (wpS cs body) l X N R)
 | .rW i j it body,l,P,X,N,R=>bE n it l P X (OF cs i j (wpS cs body) l X N R)
 | .qe i m body,l,P,X,N,R=>bE n m l P X (OG cs i (wpS cs body) l X N R)
 | .sO c body,l,P,X,N,R=>∃ f,r8 (λl P Q=>bE n c l P X Q) (λl P k=>wpS cs body l P X k R) f l P N
 | .Fb t,l,P,X,_,_=>bE n t l P X λv P=>match n with
  | k+1=>∀ e,P e=none->Calls k 782 [.ref e,v] (upd P e (.raw 785)) X λu P=>u=.none/\∃ fs,P e=some (.jX 785 fs)/\X e (upd P e (.exc 785 fs))
  | _=>False
 | .CE a i s k1 k2 k3,l,P,_,N,R=>bE n a l P (λe P=>(∃ fs,P e=some (.exc 785 fs))/\i<l.length/\bE n (.prim .add (.cons (.con (.str s 0)) (.cons (.attr (.attr (.attr (.loc i) k1) k2) k3) .nil))) (l.set i (some (.ref e))) P oA R) (λq P=>N l P)
 | .bad,_,_,_,_,_=>False
end
def UW(o:Op PO)(F:List (Str × Va)->Prop):Prop:=match o with
 | some (.dict _ kvs)=>F kvs
 | _=>False
def UY(o:Op PO)(F:Nat × Nat->List Va->Prop):Prop:=match o with
 | some (.list t vs)=>F t vs
 | _=>False
def atT(o:Op PO)(F:List Va->Prop):Prop:=match o with
 | some (.tup vs)=>F vs
 | _=>False
def UX(o:Op PO)(F:Ad->List (Nat × Va)->Prop):Prop:=match o with
 | some (.inst C fs)=>F C fs
 | _=>False
theorem J4{F:Ad->List (Nat × Va)->Prop}:∀{o:Op PO},UX o F->∃ C fs,o=some (.inst C fs)/\F C fs
 | none,h=>ck h
 | some o,h=>by cases o<;>first|exact ck h|exact⟨_,_,rfl,h⟩
theorem J3{F:List (Str × Va)->Prop}:∀{o:Op PO},UW o F->∃ t kvs,o=some (.dict t kvs)/\F kvs
 | none,h=>ck h
 | some o,h=>by cases o<;>first|exact ck h|exact⟨_,_,rfl,h⟩
theorem J5{F:Nat × Nat->List Va->Prop}:∀{o:Op PO},UY o F->∃ t vs,o=some (.list t vs)/\F t vs
 | none,h=>ck h
 | some o,h=>by cases o<;>first|exact ck h|exact⟨_,_,rfl,h⟩
theorem J6{F:List Va->Prop}:∀{o:Op PO},atT o F->∃ vs,o=some (.tup vs)/\F vs
 | none,h=>ck h
 | some o,h=>by cases o<;>first|exact ck h|exact⟨_,rfl,h⟩
theorem vO{n:Nat}{b:Bool}{t:T}{l:Lv}{P:PH}{X:XP}{Q:VQ}(h:bE n (if b=true then t else .bad) l P X Q):b=true/\bE n t l P X Q:=by
 cases b
 ·exact ck h
 ·exact⟨rfl,h⟩
theorem DX{n:Nat}{b:Bool}{t:T}{l:Lv}{P:PH}{X:XP}{Q:VQ}(h:bE n (if b=true then .bad else t) l P X Q):b=false/\bE n t l P X Q:=by
 cases b
 ·exact⟨rfl,h⟩
 ·exact ck h
theorem JP{n:Nat}{cs:List Bool}{b:Bool}{t:U}{l:Lv}{P:PH}{X:XP}{N:NP}{R:VQ}(h:wpS n cs (if b=true then t else .bad) l P X N R):b=true/\wpS n cs t l P X N R:=by
 cases b
 ·exact ck h
 ·exact⟨rfl,h⟩
theorem rO{n:Nat}{cs:List Bool}{b:Bool}{t:U}{l:Lv}{P:PH}{X:XP}{N:NP}{R:VQ}(h:wpS n cs (if b=true then .bad else t) l P X N R):b=false/\wpS n cs t l P X N R:=by
 cases b
 ·exact⟨rfl,h⟩
 ·exact ck h
theorem k8{α:Type}{n:Nat}{o:Op α}{f:α->T}{l:Lv}{P:PH}{X:XP}{Q:VQ}{G:Prop}(h:bE n (o.elim .bad f) l P X Q)(k:∀ a,o=some a->bE n (f a) l P X Q->G):G:=by
 cases o
 ·exact ck h
 ·exact k _ rfl h
theorem cX{α:Type}{n:Nat}{cs:List Bool}{o:Op α}{f:α->U}{l:Lv}{P:PH}{X:XP}{N:NP}{R:VQ}{G:Prop}(h:wpS n cs (o.elim .bad f) l P X N R)(k:∀ a,o=some a->wpS n cs (f a) l P X N R->G):G:=by
 cases o
 ·exact ck h
 ·exact k _ rfl h
variable{c:Fx}{l l':Lv}{P P':PH}{s s':Sh}{A:Around}{E:VS}{Q:Va->PH->Prop}{m:Str->Op Va}{G:HF}{D:Ad->Ad}
theorem dN{n:Nat}(h:n<big):n<=sizeLine:=by rw[sizeLine_eq];unfold big at h;lia
theorem St.toks(S:St c l P s)(t:Nat):St c l P { s with toks:=t }:=S.keep (λq q e=>e) .toks
theorem St.ok{v:Va}(S:St c l P s)(h:Q (ab v) P):Ok c l Q v s:=⟨P,S,h⟩
theorem St.kept(S:St c l P s){h:Heap}{t:Nat}(k:gS s.heap h):St c l P { s with heap:=h,toks:=t }:=by obtain⟨m,G,D,S⟩:=S;refine⟨m,G,D,S.moved (S.sat.keep (.of_keep S.sat.stay k)) rfl rfl⟩
theorem St.uG(S:St c l P s){h:Heap}(k:gS s.heap h){a:Ad}{ob:Obj}{t:Nat}{o:PO}(ha:s.heap.objs.size<=a)(e:h.get? a=some ob)(hd:o.eY=false)
  (r:∀ F d,h.get? a=some ob->cY h F d a o):P a=none/\St c l (upd P a o) { s with heap:=h,toks:=t }:=by obtain⟨m,G,D,S⟩:=S;obtain⟨e1,e2⟩:=S.sat.lt ha;refine⟨(S.sat.fresh e1).1,m,G,D,S.moved (S.sat.alloc (.of_keep S.sat.stay k) e1 e2 hd (r _ _ e)) rfl rfl⟩
theorem St.made(S:St c l P s){h:Heap}(k:gS s.heap h){a:Ad}{ob:Obj}{t:Nat}{o:PO}(ha:s.heap.objs.size<=a)(e:h.get? a=some ob)(hd:o.eY=false)
  (r:∀ F d,h.get? a=some ob->cY h F d a o) (hQ:cE P o Q):Ok c l Q (.ref a) { s with heap:=h,toks:=t }:=
 let ⟨h1,h2⟩:=S.uG k ha e hd r
 ⟨_,h2,hQ a h1⟩
theorem cM{h:Heap}{o:Obj}:gS h (h.push o):=λq q e=>ek _ e
theorem I2{vs:List Va}(S:St c l P s)(h:bD .tup (vs.map ab) P Q):wpAny (MM wd) A (newTuple vs) (Ok c l Q) E s:=by obtain⟨hz,hq⟩:=h;exact wpAny_newObj_type (S.made (t:=s.toks) (o:=.tup (vs.map ab)) cM (f7 _) (fj _ rfl) rfl (λF d e=>⟨vs,0,e,rfl⟩) hq) (by show vs.toArray.size<=sizeLine;rw[ie];exact dN (by simpa using hz))
theorem Lu{vs:List Va}(S:St c l P s)(h:bD .list (vs.map ab) P Q):wpAny (MM wd) A (newList vs) (Ok c l Q) E s:=by obtain⟨hz,hq⟩:=h;exact wpAny_newObj_type (S.made (t:=s.toks) (o:=.list (0,0) (vs.map ab)) cM (f7 _) (fj _ rfl) rfl (λF d e=>⟨vs,0,e,rfl⟩) hq) (by show vs.toArray.size<=sizeLine;rw[ie];exact dN (by simpa using hz))
theorem xF(v:Va):isNone (ab v)=(v==.none):=by cases v<;>rfl
theorem xW(v:Va):kZ (ab v)=kZ v:=by cases v<;>rfl
theorem Ry{a b:Va}(S:St c l P s)(h:bD .is [ab a,ab b] P Q):wpAny (MM wd) A (compareOp .Is a b) (Ok c l Q) E s:=by obtain⟨rfl,hp,h'⟩:=DK h;rw[xW] at hp;rw[xF] at h';refine wpAny_is_plain ?_ (S.ok h');cases a<;>first|rfl|cases hp
theorem IV{a b:Va}(S:St c l P s)(h:bD .isnot [ab a,ab b] P Q):wpAny (MM wd) A (compareOp .IsNot a b) (Ok c l Q) E s:=by obtain⟨rfl,hp,h'⟩:=DK h;rw[xW] at hp;rw[xF] at h';refine wpAny_isNot_plain ?_ (S.ok h');cases a<;>first|rfl|cases hp
theorem Rz{a b:Va}(S:St c l P s)(h:bD .lt [ab a,ab b] P Q):wpAny (MM wd) A (compareOp .Lt a b) (Ok c l Q) E s:=by obtain⟨i,t,rfl,h⟩:=dK h;obtain⟨j,u,rfl,h⟩:=dK h;exact lt_int (S.ok h)
theorem Rw{a b:Va}(S:St c l P s)(h:bD .gt [ab a,ab b] P Q):wpAny (MM wd) A (compareOp .Gt a b) (Ok c l Q) E s:=by obtain⟨i,t,rfl,h⟩:=dK h;obtain⟨j,u,rfl,h⟩:=dK h;exact gt_int (S.ok h)
theorem intBits_le{b:Int}(h:b.natAbs<2^60):Builtin.Int.intBits b<=64:=by
 unfold Builtin.Int.intBits;by_cases q:b=0
 ·subst q;decide
 ·have h0:b.natAbs≠0:=by lia
  have:=(Nat.log2_lt h0).mpr h;split<;>lia
theorem O6{a b:Va}(S:St c l P s)(h:bD .mul [ab a,ab b] P Q):wpAny (MM wd) A (binaryOp .Mult a b) (Ok c l Q) E s:=by obtain⟨i,t,rfl,h⟩:=dK h;obtain⟨j,u,rfl,h⟩:=dK h;exact PyProof.Rows.mul_int ((S.toks _).ok h.2) (.of_right (intBits_le h.1))
theorem O5{a b:Va}(S:St c l P s)(h:bD .mod [ab a,ab b] P Q):wpAny (MM wd) A (binaryOp .Mod a b) (Ok c l Q) E s:=by obtain⟨i,t,rfl,h⟩:=dK h;obtain⟨j,u,rfl,h⟩:=dK h;refine mod_int (Int.ne_of_gt h.1) ((S.toks _).ok ?_);have hq:=h.2;rw[<-Int.fmod_eq_emod_of_nonneg _ (Int.le_of_lt h.1)] at hq;exact hq
theorem Ft{a b:Int}(hb:0<b)(hz:b<2^60):Builtin.divisionGoesByPylong a b=false:=by
 unfold Builtin.divisionGoesByPylong;have h0:b.natAbs≠0:=by lia
 have hn:b.natAbs<2^60:=by lia
 have:=(Nat.log2_lt h0).mpr hn;have h1:¬ (b==0)=true:=by simpa using Int.ne_of_gt hb
 simp only[h1,if_false,Bool.and_eq_false_iff,decide_eq_false_iff_not]
 left;simp only[Bool.false_eq_true,if_false];lia
theorem Lp{a b:Va}(S:St c l P s)(h:bD .fdiv [ab a,ab b] P Q):wpAny (MM wd) A (binaryOp .FloorDiv a b) (Ok c l Q) E s:=by
 obtain⟨i,t,rfl,h⟩:=dK h;obtain⟨j,u,rfl,h⟩:=dK h;refine PyProof.Rows.floordiv_int (Int.ne_of_gt h.1.1) ((S.toks _).ok ?_) ?_
 ·have hq:=h.2
  rw[<-Int.fdiv_eq_ediv_of_nonneg _ (Int.le_of_lt h.1.1)] at hq;exact hq
 ·exact .inl (Ft h.1.1 h.1.2)
theorem O8{a b:Va}(S:St c l P s)(h:bD .pow [ab a,ab b] P Q):wpAny (MM wd) A (binaryOp .Pow a b) (Ok c l Q) E s:=by obtain⟨i,t,rfl,h⟩:=dK h;obtain⟨j,u,rfl,h⟩:=dK h;obtain⟨⟨rfl,rfl⟩,hq⟩:=h;exact pow_int () ⋯ ((S.toks _).ok hq)
theorem eT{a:Ad}{t:Nat × Nat}{vs:List Va}(S:St c l P s)(h:P a=some (.list t vs)):D7 listOf s.heap a vs:=by obtain⟨m,G,D,S⟩:=S;exact(S.sat.rel a _ h).2
theorem mQ{a:Ad}{vs:List Va}(S:St c l P s)(h:P a=some (.tup vs)):D7 Bc s.heap a vs:=by obtain⟨m,G,D,S⟩:=S;exact(S.sat.rel a _ h).2
theorem sU{a b:Nat}(h:a<big)(k:b<big):a+b<=sizeLine:=by rw[sizeLine_eq];unfold big at *;lia
theorem IS{a b:Va}(S:St c l P s)(h:bD .add [ab a,ab b] P Q):wpAny (MM wd) A (binaryOp .Add a b) (Ok c l Q) E s:=by
 rcases pK h with⟨i,t,rfl,h⟩|⟨x,t,rfl,h⟩|⟨x,rfl,h⟩
 ·obtain⟨j,u,rfl,h⟩:=dK h
  exact add_int ((S.toks _).ok h)
 ·obtain⟨y,u,rfl,h⟩:=iN h
  exact add_str (λt' tk=>(S.toks _).ok h.2) (sU h.1.1 h.1.2)
 ·obtain⟨y,rfl,h⟩:=cC h
  obtain⟨t,_,e1,h⟩:=fB h;obtain⟨t',_,e2,hz,hq⟩:=fB h;obtain⟨vs',n,g1,rfl⟩:=eT S e1;obtain⟨us',n',g2,rfl⟩:=eT S e2;rw[ef,ef] at hz;exact PySem.P.add_list g1 g2 (S.made (t:=s.toks) (o:=.list (0,0) (vs'.map ab++us'.map ab)) cM (f7 _) (fj _ rfl) rfl (λF d e=>⟨vs'++us',0,by simpa using e,i8 ..⟩) hq) (sU hz.1 hz.2)
theorem cY.yX{h:Heap}{F:HF}{d a:Ad}{o:PO}(r:cY c.base (λj=>none) 0 a o)(k:c.base.StaysIn h)(ho:o.eY=false):cY h F d a o:=by
 cases o with
 | inst=>cases ho
 | exc=>cases ho
 | jX=>cases ho
 | dict t kvs=>obtain⟨⟨o,kvs',h1,h2,hm⟩,h3⟩:=r;exact⟨⟨o,kvs',k _ _ h1,h2,hm⟩,λq=>let ⟨o,es,x,y⟩:=h3 q;⟨o,es,k _ _ x,y⟩⟩
 | tab es=>exact k _ _ r
 | code i=>obtain⟨o,vs,t,h1,h2⟩:=r;exact⟨o,vs,t,k _ _ h1,h2⟩
 | raw C=>obtain⟨vs,h1⟩:=r;exact⟨vs,k _ _ h1⟩
 | list t vs=>obtain⟨vs',n,h1,h2⟩:=r;exact⟨vs',n,k _ _ h1,h2⟩
 | tup vs=>obtain⟨vs',n,h1,h2⟩:=r;exact⟨vs',n,k _ _ h1,h2⟩
 | lam i vs=>obtain⟨o,cs,h1,h2,h3⟩:=r;refine⟨o,cs,k _ _ h1,h2,λq hq=>?_⟩;obtain⟨p,e,_⟩:=h3 q hq;cases e
theorem yU(S:St c l P s)(O:bM c):iC P:=λa o h=>by
 obtain⟨m,G,D,S⟩:=S;cases q:nQ a with
 | none=>rfl
 | some o'=>obtain⟨ob,e⟩:=cY.self (O.st a o' q);rw[(S.sat.rel a o h).1] at e;cases e
theorem qp{a:Ad}{t:Nat × Nat}{kvs:List (Str × Va)}(S:St c l P s)(O:bM c)(h:rd P a=some (.dict t kvs)):Gq s.heap a kvs:=by
 obtain⟨m,G,D,S⟩:=S;unfold rd at h;split at h
 ·obtain rfl:=kr h;rename_i q;exact(S.sat.rel a _ q).2.1
 ·exact(cY.yX (d:=0) (F:=G) (O.st a _ h) S.sat.stay rfl).1
theorem zg{a:Ad}{vs:List Va}(S:St c l P s)(O:bM c)(h:rd P a=some (.tup vs)):D7 Bc s.heap a vs:=by
 obtain⟨m,G,D,S⟩:=S;unfold rd at h;split at h
 ·obtain rfl:=kr h;rename_i q;exact(S.sat.rel a _ q).2
 ·exact cY.yX (d:=0) (F:=G) (O.st a _ h) S.sat.stay rfl
theorem nE{a:Ad}{t:Nat × Nat}{vs:List Va}(S:St c l P s)(O:bM c)(h:rd P a=some (.list t vs)):D7 listOf s.heap a vs:=by
 obtain⟨m,G,D,S⟩:=S;unfold rd at h;split at h
 ·obtain rfl:=kr h;rename_i q;exact(S.sat.rel a _ q).2
 ·exact cY.yX (d:=0) (F:=G) (O.st a _ h) S.sat.stay rfl
theorem iA{a:Ad}{t:Nat × Nat}{kvs:List (Str × Va)}(S:St c l P s)(O:bM c)(h:P a=some (.dict t kvs)):(a==sysModules)=false/\Gq s.heap a kvs:=by
 obtain⟨m,G,D,S⟩:=S;obtain⟨h1,h2⟩:=S.sat.rel a _ h;refine⟨?_,h2.1⟩;obtain⟨o,ho⟩:=O.big;simp only[beq_eq_false_iff_ne,ne_eq]
 rintro rfl
 rw[ho] at h1;cases h1
theorem oZ{a:Ad}{t:Nat × Nat}{kvs:List (Str × Va)}(S:St c l P s)(O:bM c)(h:rd P a=some (.dict t kvs)):(a==sysModules)=false:=by
 obtain⟨m,G,D,S⟩:=S;unfold rd at h;split at h
 ·rename_i q
  obtain⟨o,ho⟩:=O.big;have h1:=(S.sat.rel a _ q).1;simp only[beq_eq_false_iff_ne,ne_eq]
  rintro rfl
  rw[ho] at h1;cases h1
 ·unfold nQ at h
  by_cases q:a=sysModules
  ·subst q
   have h:(if sysModules=vQ then some (PO.list (0,0) (IK.map λi=>.int i 0)) else none)=some (.dict t kvs):=h;split at h<;>cases h
  ·simpa using q
theorem AB(k:Str):∀ kvs:List (Str × Va),aR k (kvs.map kI)=(valueAt kvs k).map ab:=by
 intro rr;induction rr with
 | nil=>exact rfl
 | cons yk r ih=>
  obtain⟨x,v⟩:=yk;simp only[gn,KP,kI,valueAt,List.find?_cons];by_cases h:x=k
  ·simp [h]
  ·simp only[h,if_false,decide_false]
   exact ih
theorem Ow(k:Str)(v:Va):∀ kvs:List (Str × Va),(kvs.map (·.1)).Nodup->cT k (ab v) (kvs.map kI)=(stored kvs k v).map kI:=by
 intro rr;induction rr with
 | nil=>exactλq=>rfl
 | cons yk r ih=>
  obtain⟨x,u⟩:=yk;intro nd;rw[gn,jj] at nd;have ih:=ih nd.2;unfold stored at ih ⊢;simp only[gn,tB,kI,jo];by_cases h:x=k
  ·subst h
   simp only[if_true,decide_true,Bool.true_or,gn,kI]
   congr 1
   have:(r.map λkv=>if kv.1=x then(kv.1,v) else kv)=r:=map_store_of_not_mem r x v nd.1;rw[this]
  ·simp only[h,if_false,decide_false,Bool.false_or]
   rw[ih];split<;>simp [h,kI]
theorem Ou(k:Str)(kvs:List (Str × Va)):uR k (kvs.map kI)=(without kvs k).map kI:=by unfold uR without;rw[List.filter_map];rfl
theorem kF{value slice:Expr}{o i:Va}{T id:String}{ops:List Va}{Q':VS}(hT:s.TypeIs o T)
  (hl:typeLookup (.type T) "__getitem__"=pure (some (.builtin id))) (h:wpAny (MM wd) A (getItem o i) Q' E s)
  (hs:subscripted slice false o i=operate ops (getItem o i)):wpAny (MM wd) A (subscriptTail value slice o i) Q' E s:=by
 unfold subscriptTail;refine af ?_;rw[getitemInPython_of_ne hT.not_modules];refine af (wpAny_specialOf hT hl ?_);have fin:wpAny (MM wd) A (subscripted slice false o i) (λr jC=>wpAny (MM wd) A (letTemporaryGo value o r>>=λq=>pure r) Q' E jC) E s:=by rw[hs];exact wpAny_operating (ak h (λr jC bY=>af (wpAny_letTemporaryGo (aq bY))) λq q x=>x)
 first
  | exact aq (af fin)
  | exact af (aq (af fin))
  | exact af fin
theorem bK{h:Heap}{a:Ad}{vs:Array Va}{n:Nat}(e:h.get? a=some (listOf vs n)):h.IsList a vs:=⟨_,e,rfl,n,rfl⟩
theorem pY{h:Heap}{a:Ad}{vs:Array Va}{n:Nat}(e:h.get? a=some (Bc vs n)):IsTup h a vs:=⟨_,e,rfl,n,rfl⟩
theorem kR{h:Heap}{a:Ad}{vs:Array Va}{n:Nat}(e:h.get? a=some (Bc vs n)):h.IsTuple a vs:=⟨_,e,rfl,n,rfl⟩
theorem get_map{vs:List Va}{j:Nat}{v:Va}(h:(vs.map ab)[j]?=some v):∃ v',vs[j]?=some v'/\ab v'=v:=by
 rw[gj] at h;cases q:vs[j]? with
 | none=>rw[q] at h;cases h
 | some v'=>rw[q] at h;exact⟨v',rfl,kr h⟩
theorem Cs{value slice:Expr}{x:Str}{t u:Tok}(S:St c l P s)(hx:x="K"\/x="L")(hq:Q (.str x 0) P)(hs:∀ o i,subscripted slice false o i=operate [o,i] (getItem o i)):
  wpAny (MM wd) A (subscriptTail value slice (.str x t) (.int 0 u)) (Ok c l Q) E s:=by
 refine kF (typeIs_str _ x t) PySem.F.slot_str_getitem.lookup ?_ (hs _ _);rcases hx with rfl|rfl
 ·exact PySem.P.getItem_str (c:=75) () ⋯ ((S.toks _).ok hq)
 ·exact PySem.P.getItem_str (c:=76) () ⋯ ((S.toks _).ok hq)
theorem IZ{x y:Str}{t u:Tok}(S:St c l P s)(hy:y="ABCDEFGHIJKLMNOPQRSTUVWXYZ")(hx:x="K"\/x="L")(hq:Q (.bool true) P):wpAny (MM wd) A (compareOp .In (.str x t) (.str y u)) (Ok c l Q) E s:=by
 subst hy;refine PySem.P.in_str (S.ok ?_);have:(!(Builtin.Str.occurrences "ABCDEFGHIJKLMNOPQRSTUVWXYZ" x 0 (Str.length "ABCDEFGHIJKLMNOPQRSTUVWXYZ") 1).isEmpty)=true:=by rcases hx with rfl|rfl<;>decide +kernel
 rw[this];exact hq
theorem AV{x y:Str}{t u:Tok}(S:St c l P s)(hy:y="ABCDEFGHIJKLMNOPQRSTUVWXYZ")(hx:x="K"\/x="L")(hq:Q (.bool false) P):wpAny (MM wd) A (compareOp .NotIn (.str x t) (.str y u)) (Ok c l Q) E s:=by
 subst hy;refine PySem.P.notIn_str (S.ok ?_);have:(!(!(Builtin.Str.occurrences "ABCDEFGHIJKLMNOPQRSTUVWXYZ" x 0 (Str.length "ABCDEFGHIJKLMNOPQRSTUVWXYZ") 1).isEmpty))=false:=by rcases hx with rfl|rfl<;>decide +kernel
 rw[this];exact hq
theorem zj{i:Int}{n:Nat}(h1:0<=i)(h2:i.toNat<n):seqIndex? i n=some i.toNat:=by
 unfold seqIndex?;have h3:¬ i<0:=by lia
 simp only[h3,if_false];have:(decide (0<=i)&&decide (i<(n:Int)))=true:=by simp;lia
 rw[ai this]
theorem Ls{value slice:Expr}{o i:Va}(S:St c l P s)(O:bM c)(h:bD .item [ab o,ab i] P Q)(hs:∀ o i,subscripted slice false o i=operate [o,i] (getItem o i)):
  wpAny (MM wd) A (subscriptTail value slice o i) (Ok c l Q) E s:=by
 rcases pK h with⟨_,_,_,h⟩|⟨x,t,rfl,h⟩|⟨a,rfl,h⟩
 ·exact ck h
 ·obtain⟨i,u,rfl,h⟩:=dK h
  obtain⟨⟨rfl,hx⟩,hq⟩:=h;exact Cs S hx hq hs
 rcases pK h with⟨i,t,rfl,h⟩|⟨k,t,rfl,h⟩|⟨_,_,h⟩
 ·rcases GL h with⟨_,_,q,h1,h2,h3⟩|⟨_,q,h1,h2,h3⟩
  ·obtain⟨vs',n,g,rfl⟩:=eT S q
   obtain⟨v,hv,h3⟩:=qj h3;obtain⟨v',hv',rfl⟩:=get_map hv;exact kF (bK g).typeIs PySem.F.slot_list_getitem.lookup (wpAny_getItem_list (bK g) h1 (by lia) (by simpa using hv') (S.ok h3)) (hs _ _)
  ·obtain⟨vs',n,g,rfl⟩:=mQ S q
   obtain⟨v,hv,h3⟩:=qj h3;obtain⟨v',hv',rfl⟩:=get_map hv;have hlt:=(List.getElem?_eq_some_iff.mp hv').1;refine kF (pY g).typeIs PySem.F.slot_tuple_getitem.lookup (getItem_tuple (pY g) (by lia) (by lia) (j:=i.toNat) ?_ (by simpa using hv') (S.ok h3)) (hs _ _);rw[ie];exact zj h1 hlt
 ·obtain⟨t',_,q,h⟩:=iM (h (yU S O))
  obtain⟨ob,kvs',g,hd,rfl⟩:=qp S O q;rw[AB] at h;obtain⟨v',hv0,h⟩:=qj h;obtain⟨v,hv,rfl⟩:=dw hv0;exact kF (Heap.dictOf_iff.mpr ⟨ob,g,hd⟩).typeIs PySem.F.slot_dict_getitem.lookup (wpAny_getItem_of (bz _ wd k t) (Heap.dictOf_iff.mpr ⟨ob,g,hd⟩).mapOf hv ((S.toks _).ok h)) (hs _ _)
 ·exact ck h
set_option tactic.hygienic true in
theorem mW(k:Str):∀{vs:List Va} {b:Bool},fZ k (vs.map ab)=some b->∃ ys,StrsAre vs ys/\ys.any (·==k)=b:=by
 intro rr;induction rr with
 | nil=>exact @λb h=>⟨[],.nil,kr h⟩
 | cons v r ih=>
  intro b h;cases v<;>first|exact bB h|skip
  rename_i x t;have h:(fZ k (r.map ab)).map (decide (x=k)||·)=some b:=h;exact dJ h λb' q h=>by obtain⟨ys,h1,h2⟩:=ih q;refine⟨x::ys,.cons x t h1,?_⟩;rw[jo,h2,<-h];by_cases q:x=k<;>simp [q]
theorem mY{r:Op Bool}(h:xj r P Q):∃ b,r=some b/\Q (.bool b) P:=by cases r<;>first|exact ck h|exact⟨_,rfl,h⟩
theorem Dr{x:Str}{o:Op PO}{r:Bool}(h:inR x o=some r):(∃ t kvs,o=some (.dict t kvs)/\(aR x kvs).isSome=r)\/(∃ t vs,o=some (.list t vs)/\fZ x vs=some r)\/∃ vs,o=some (.tup vs)/\fZ x vs=some r:=by
 obtain _|o:=o
 ·cases h
 ·cases o<;>first|cases h;done|exact .inl ⟨_,_,rfl,kr h⟩|exact .inr (.inl ⟨_,_,rfl,h⟩)|exact .inr (.inr ⟨_,rfl,h⟩)
set_option tactic.hygienic true in
theorem Ds{a b:Va}{r:Bool}(h:PU P (ab a) (ab b)=some r):∃ x t,a=.str x t/\((∃ d,b=.ref d/\inR x (rd P d)=some r)\/∃ y u,b=.str y u/\(y=("ABCDEFGHIJKLMNOPQRSTUVWXYZ":Str)/\(x=("K":Str)\/x=("L":Str)))/\r=true):=by
 cases a<;>first|cases h;done|skip
 refine⟨_,_,rfl,?_⟩;cases b<;>first|cases h;done|exact .inl ⟨_,rfl,h⟩|skip
 refine .inr ⟨_,_,rfl,?_⟩;rename_i x _ y _;have h:(if y=("ABCDEFGHIJKLMNOPQRSTUVWXYZ":Str)/\(x=("K":Str)\/x=("L":Str)) then some true else none)=some r:=h;by_cases q:y=("ABCDEFGHIJKLMNOPQRSTUVWXYZ":Str)/\(x=("K":Str)\/x=("L":Str))
 ·rw[ai q] at h;exact⟨q,(kr h).symm⟩
 ·rw[aa q] at h;cases h
theorem Du{kvs:List (Str × Va)}{k:Str}:(aR k (kvs.map kI)).isSome=(valueAt kvs k).isSome:=by rw[AB,Option.isSome_map]
theorem Rx{a b:Va}(S:St c l P s)(O:bM c)(h:bD .isin [ab a,ab b] P Q):wpAny (MM wd) A (compareOp .In a b) (Ok c l Q) E s:=by
 obtain⟨r,hr,h⟩:=mY (h (yU S O));obtain⟨x,t,rfl,⟨d,rfl,hr⟩|⟨y,u,rfl,hc,rfl⟩⟩:=Ds hr
 ·rcases Dr hr with⟨_,_,q,rfl⟩|⟨_,_,q,hr⟩|⟨_,q,hr⟩
  ·obtain⟨ob,kvs',g,hd,rfl⟩:=qp S O q
   rw[Du] at h;exact wpAny_in_of (bz _ wd x t) (oZ S O q) (Heap.dictOf_iff.mpr ⟨ob,g,hd⟩).mapOf ((S.toks _).ok h)
  ·obtain⟨vs',n,g,rfl⟩:=nE S O q
   obtain⟨ys,h1,rfl⟩:=mW x hr;exact in_list_strs (bK g) h1 (S.ok h)
  ·obtain⟨vs',n,g,rfl⟩:=zg S O q
   obtain⟨ys,h1,rfl⟩:=mW x hr;exact in_tuple_strs (pY g) (by simpa using h1) (S.ok h)
 ·exact IZ S hc.1 hc.2 h
theorem IX{a b:Va}(S:St c l P s)(O:bM c)(h:bD .notin [ab a,ab b] P Q):wpAny (MM wd) A (compareOp .NotIn a b) (Ok c l Q) E s:=by
 obtain⟨r',hr',h⟩:=mY (h (yU S O));obtain⟨r,hr,rfl⟩:=dw hr';obtain⟨x,t,rfl,⟨d,rfl,hr⟩|⟨y,u,rfl,hc,rfl⟩⟩:=Ds hr
 ·rcases Dr hr with⟨_,_,q,rfl⟩|⟨_,_,q,hr⟩|⟨_,q,hr⟩
  ·obtain⟨ob,kvs',g,hd,rfl⟩:=qp S O q
   rw[Du] at h;exact wpAny_notIn_of (bz _ wd x t) (oZ S O q) (Heap.dictOf_iff.mpr ⟨ob,g,hd⟩).mapOf ((S.toks _).ok h)
  ·obtain⟨vs',n,g,rfl⟩:=nE S O q
   obtain⟨ys,h1,rfl⟩:=mW x hr;exact notin_list_strs (bK g) h1 (S.ok h)
  ·obtain⟨vs',n,g,rfl⟩:=zg S O q
   obtain⟨ys,h1,rfl⟩:=mW x hr;exact notin_tuple_strs (pY g) (by simpa using h1) (S.ok h)
 ·exact AV S hc.1 hc.2 h
theorem Lq{a b:Va}(S:St c l P s)(O:bM c)(h:bD .qR [ab a,ab b] P Q):wpAny (MM wd) A (call (.builtin "dict.get") [a,b]) (Ok c l Q) E s:=by obtain⟨d,rfl,h⟩:=cC h;obtain⟨k,t,rfl,h⟩:=iN h;obtain⟨_,_,q,h⟩:=iM h;obtain⟨lo,ob,kvs',g,hd,rfl⟩:=iA S O q;rw[AB] at h;refine call_meetsIn j7 (Heap.dictOf_iff.mpr ⟨ob,g,hd⟩).typeIs PySem.F.entry_dict_get (PySem.F.args_dict_get_2 _ _) (meets_dict_get (strKind pw wd) d (bz _ wd k t) lo) ⟨_,(Heap.dictOf_iff.mpr ⟨ob,g,hd⟩).mapOf,(S.toks _).ok ?_⟩;cases hv:valueAt kvs' k<;>rw[hv] at h<;>exact h
theorem Lr{a b e:Va}(S:St c l P s)(O:bM c)(h:bD .uI [ab a,ab b,ab e] P Q):wpAny (MM wd) A (call (.builtin "dict.get") [a,b,e]) (Ok c l Q) E s:=by obtain⟨d,rfl,h⟩:=cC h;obtain⟨k,t,rfl,h⟩:=iN h;obtain⟨_,_,q,h⟩:=iM (h (yU S O));obtain⟨ob,kvs',g,hd,rfl⟩:=qp S O q;rw[AB] at h;refine call_meetsIn j7 (Heap.dictOf_iff.mpr ⟨ob,g,hd⟩).typeIs PySem.F.entry_dict_get (PySem.F.args_dict_get_3 _ _ _) (meets_dict_get_default (strKind pw wd) d (bz _ wd k t) (oZ S O q) e) ⟨_,(Heap.dictOf_iff.mpr ⟨ob,g,hd⟩).mapOf,(S.toks _).ok ?_⟩;cases hv:valueAt kvs' k<;>rw[hv] at h<;>exact h
theorem vC{h h':Heap}{a:Ad}(x:Heap.SameBut a h h'):∀ b o,b≠a->h.get? b=some o->h'.get? b=some o:=λb o hb e=>(x.2 b hb).trans e
theorem vD{h h':Heap}{a:Ad}(x:Heap.SameBut a h h'):h.objs.size<=h'.objs.size:=gi x.1.symm
theorem O7{a b:Va}(S:St c l P s)(O:bM c)(h:bD .pop [ab a,ab b] P Q):wpAny (MM wd) A (call (.builtin "dict.pop") [a,b]) (Ok c l Q) E s:=by obtain⟨d,rfl,h⟩:=cC h;obtain⟨k,t,rfl,h⟩:=iN h;obtain⟨_,_,q,hz,h⟩:=iM h;obtain⟨lo,ob,kvs',g,hd,rfl⟩:=iA S O q;rw[ef] at hz;rw[AB,Ou] at h;obtain⟨v',hv0,h⟩:=qj h;obtain⟨v,hv,rfl⟩:=dw hv0;refine call_meetsIn PySem.F.slot_dict_pop (Heap.dictOf_iff.mpr ⟨ob,g,hd⟩).typeIs PySem.F.entry_dict_pop (PySem.F.args_dict_pop_2 _ _) (meets_dict_pop_there (strKind pw wd) d (bz _ wd k t) [] (.inl rfl) rfl) ⟨kvs',v,Heap.dictOf_iff.mpr ⟨ob,g,hd⟩,dN hz,hv,λh' hm hs=>?_⟩;obtain⟨o',e1,e2⟩:=Heap.dictOf_iff.mp hm;exact⟨_,(S.set (o':=.dict (0,0) ((without kvs' k).map kI)) (vC hs) ⟨vD hs,rfl,rfl⟩ q rfl rfl λF dd=>⟨⟨o',_,e1,e2,rfl⟩,λz=>absurd z ()⟩),h⟩
theorem E3{a b:Va}(S:St c l P s)(h:bD .append [ab a,ab b] P Q):wpAny (MM wd) A (call (.builtin "list.append") [a,b]) (Ok c l Q) E s:=by obtain⟨d,rfl,h⟩:=cC h;obtain⟨_,_,q,hz,hq⟩:=fB h;obtain⟨vs',n,g,rfl⟩:=eT S q;rw[ef] at hz;exact append_at g (λh' hs e=>⟨_,S.set (o':=.list _ (vs'.map ab++[ab b])) (vC hs) ⟨vD hs,rfl,rfl⟩ q rfl rfl λF dd=>⟨vs'++[b],n+1,by show h'.get? d=_;rw[e];simp,i8 ..⟩,hq⟩) (dN hz)
theorem uZ{vs us:List Va}{n:Nat}(f:Array Va->Array Va)(h:f vs.toArray=us.toArray):∃ n',Obj.mapSeq f (W.listOf vs.toArray n)=W.listOf us.toArray n':=by unfold Obj.mapSeq W.listOf;simp only[h];exact⟨_,rfl⟩
theorem E5{a b:Va}(S:St c l P s)(h:bD .extend [ab a,ab b] P Q):wpAny (MM wd) A (call (.builtin "list.extend") [a,b]) (Ok c l Q) E s:=by obtain⟨x,rfl,h⟩:=cC h;obtain⟨y,rfl,h⟩:=cC h;obtain⟨_,_,q1,h⟩:=fB h;obtain⟨_,_,q2,⟨hne,z1,z2⟩,hq⟩:=fB h;obtain⟨vs',n,g1,rfl⟩:=eT S q1;obtain⟨us',n2,g2,rfl⟩:=eT S q2;rw[ef] at z1 z2;have hs:Heap.SameBut x s.heap (s.heap.update x (Obj.mapSeq λy=>y++us'.toArray)):=Heap.SameBut.update ..;obtain⟨n',e⟩:=uZ (n:=n) (vs:=vs') (us:=vs'++us') (λy=>y++us'.toArray) (by simp);refine call_meets PySem.F.slot_list_extend ⟨_,g1,rfl⟩ PySem.F.entry_list_extend (PySem.F.args_list_extend_2 _ _) (PySem.AutoSeq1.list_extend_list_list_0 x vs'.toArray n y us'.toArray n2 ?_ (dN z1) (Nat.le_succ_of_le (sU z1 z2))) ⟨g1,g2,_,S.set (o':=.list _ (vs'.map ab++us'.map ab)) (s':={ s with heap:=s.heap.update x (Obj.mapSeq λy=>y++us'.toArray) }) (vC hs) ⟨vD hs,rfl,rfl⟩ q1 rfl rfl λF dd=>⟨vs'++us',n',(g9 _ g1 (by rw[e];rfl)).trans (aj some e),i8 ..⟩,hq⟩;unfold Builtin.List.listTooLong;simp [Nat.not_lt.mpr (show vs'.length+us'.length<=sizeLine from sU z1 z2)]
theorem O4{a:Va}(S:St c l P s)(O:bM c)(h:bD .len [ab a] P Q):wpAny (MM wd) A (call (.builtin "len") [a]) (Ok c l Q) E s:=by obtain⟨x,rfl,h⟩:=cC h;obtain⟨_,_,q,hz,hq⟩:=fB (h (yU S O));obtain⟨vs',n,g,rfl⟩:=nE S O q;rw[ef] at hq hz;exact call_len_list (bK g) (by rw[ie];unfold big at hz;lia) ((S.toks _).ok hq)
theorem O2{a:Va}(S:St c l P s)(h:bD .abs [ab a] P Q):wpAny (MM wd) A (call (.builtin "abs") [a]) (Ok c l Q) E s:=by
 obtain⟨i,t,rfl,h⟩:=dK h;refine call_abs_int λu tk=>(S.toks _).ok ?_;have e:(if i<0 then -i else i)=(i.natAbs:Int):=by split<;>lia
 rw[e];exact h
theorem O3{a:Va}(S:St c l P s)(h:bD .int [ab a] P Q):wpAny (MM wd) A (call (.type "int") [a]) (Ok c l Q) E s:=by obtain⟨b,rfl,h⟩:=Lh h;exact call_int_bool ((S.toks _).ok h)
set_option tactic.hygienic true in
theorem FU:∀{vs:List Va} {i:Int},zo (vs.map ab)=some i->∃ ns,IntsAre vs ns/\ns.sum=i:=by
 intro rr;induction rr with
 | nil=>exact @λi h=>⟨[],.nil,kr h⟩
 | cons v r ih=>
  intro i h;cases v<;>first|exact bB h|exact Hp h|exact gP h|exact lz h|skip
  rename_i x t;replace h:(zo (r.map ab)).map (x+·)=some i:=h;cases q:zo (r.map ab) with
  | none=>rw[q] at h;cases h
  | some j=>rw[q] at h;obtain⟨ns,h1,h2⟩:=ih q;exact⟨x::ns,.cons x t h1,by rw[List.sum_cons,h2];exact kr h⟩
theorem Pa{a:Va}(S:St c l P s)(h:bD .sum [ab a] P Q)(hh:A.handled=none):wpAny (MM wd) A (call (.builtin "sum") [a]) (Ok c l Q) E s:=by
 obtain⟨x,rfl,h⟩:=cC h;obtain⟨_,_,q,hz,hq⟩:=fB h;obtain⟨i,hi,hq⟩:=qj hq;obtain⟨vs',n,g,rfl⟩:=eT S q;obtain⟨ns,h1,rfl⟩:=FU hi;obtain⟨xs,e⟩:=h1.allInts.items;have hl:=bK g;rw[e] at hl;refine sum_intListG hh hl λh' tk t' hk=>⟨P,S.kept hk,?_⟩
 have:preSum (numAt xs) xs.size=ns.sum:=by rw[preSum_eq,List.take_of_length_le (by simp)];have:=h1.numsOf;rw[show vs'=vs'.toArray.toList from rfl,e,nums_intItems] at this;rw[this]
 rw[this];exact hq
theorem E7{a:Va}(S:St c l P s)(O:bM c)(h:bD .listof [ab a] P Q)(hh:A.handled=none):wpAny (MM wd) A (call (.type "list") [a]) (Ok c l Q) E s:=by
 obtain⟨x,rfl,h⟩:=cC h;rcases Ec h with⟨_,_,q,hz,hq⟩|⟨_,q,hz,hq⟩|⟨_,_,q,hz,hq⟩
 ·obtain⟨vs',n,g,rfl⟩:=eT S q
  rw[ef] at hz;exact call_list_seq x (.inl rfl) g rfl rfl (λh' c' hk e=>S.made (t:=s.toks) (o:=.list (0,0) (vs'.map ab)) hk (f7 _) e rfl (λF d e=>⟨vs',c',e,rfl⟩) hq) (dN hz)
 ·obtain⟨vs',n,g,rfl⟩:=mQ S q
  rw[ef] at hz;exact call_list_seq x (.inr rfl) g rfl rfl (λh' c' hk e=>S.made (t:=s.toks) (o:=.list (0,0) (vs'.map ab)) hk (f7 _) e rfl (λF d e=>⟨vs',c',e,rfl⟩) hq) (dN hz)
 ·obtain⟨lo,ob,kvs',g,hd,rfl⟩:=iA S O q
  have hD:=Heap.dictOf_iff.mpr ⟨ob,g,hd⟩;obtain⟨ep,hat⟩:=hD.dictAt;refine kdl_call (kdl_dict (knd:=strKind pw wd) (kvs:=kvs') (ep:=ep) lo) hh hat (dN (by simpa using hz)) λh' tk acc c' hk e hi=>?_;refine S.made (t:=tk) (o:=.list (0,0) ((kvs'.map kI).map λe=>.str e.1 0)) hk (f7 _) e rfl (λF d e=>⟨acc.toList,c',by simpa using e,?_⟩) hq;obtain⟨h1,h2⟩:=hi;refine List.ext_getElem? λj=>?_;simp only[ir,gj];by_cases hj:j<kvs'.length
  ·have hj':j<acc.size:=by lia
   have ea:acc[j]?=some acc[j]:=Array.getElem?_eq_getElem hj';obtain⟨k,x,q1,q2⟩:=h2 j _ ea;obtain⟨t,q3⟩:=Value.isStrOf_shape q2;rw[q1,show acc.toList[j]?=acc[j]? by simp,ea,q3];rfl
  ·rw[ji (by simp;lia),ji (by lia)]
   rfl
theorem E4{a:Va}(S:St c l P s)(O:bM c)(h:bD .dictof [ab a] P Q):wpAny (MM wd) A (call (.type "dict") [a]) (Ok c l Q) E s:=by obtain⟨x,rfl,h⟩:=cC h;obtain⟨_,_,q,hz,hq⟩:=iM h;obtain⟨lo,ob,kvs',g,hd,rfl⟩:=iA S O q;rw[ef] at hz;refine kt_call_dict lo (Heap.dictOf_iff.mpr ⟨ob,g,hd⟩) (dN hz) λh' hd' hs=>?_;obtain⟨o',e1,e2⟩:=Heap.dictOf_iff.mp hd';have hk:gS s.heap h':=λb o e=>(hs.2 b (gq (fy e))).trans (ek _ e);exact S.made (t:=s.toks) (o:=.dict (0,0) (kvs'.map kI)) hk (f7 _) e1 rfl (λF d e=>⟨⟨o',kvs',e,e2,rfl⟩,λz=>absurd z ()⟩) hq
theorem IT{env:Env}{pos:Pos}(S:St c l P s)(h:bD .dict0 [] P Q):wpAny (MM wd) A (eval (.Dict [] [] pos) env) (Ok c l Q) E s:=by refine wpAny_Dict_empty ?_;obtain⟨o',e1,e2⟩:=Heap.dictOf_iff.mp (Heap.DictOf.new (knd:=strKind pw wd) s.heap);exact S.made (t:=s.toks) (o:=.dict (0,0) []) cM (f7 _) e1 rfl (λF d e=>⟨⟨o',[],e,e2,rfl⟩,λz=>absurd z ()⟩) h
theorem oV{o i v:Va}{Q':Unit->Sh->Prop}{R:PH->Prop}(S:St c l P s)(O:bM c)(h:pq (ab o) (ab i) (ab v) P R)(hQ:∀ P' s',St c l P' s'->R P'->Q' ⟨⟩ s'):wpAny (MM wd) A (setItem o i v) Q' E s:=by
 obtain⟨a,rfl,h⟩:=cC h;rcases pK h with⟨i,t,rfl,h⟩|⟨k,t,rfl,h⟩|⟨_,_,h⟩
 ·obtain⟨_,_,q,⟨h1,h2,h3⟩,hr⟩:=fB h
  obtain⟨vs',n,g,rfl⟩:=eT S q;rw[ef] at h2 h3;have hs:Heap.SameBut a s.heap (s.heap.update a (Obj.mapSeq (·.setIfInBounds i.toNat v))):=Heap.SameBut.update ..;obtain⟨n',e⟩:=uZ (n:=n) (vs:=vs') (us:=vs'.set i.toNat v) (·.setIfInBounds i.toNat v) (by simp);refine ki_setAt g h1 ?_ (by simp;lia) (hQ _ _ (S.set (s':={ s with heap:=s.heap.update a (Obj.mapSeq (·.setIfInBounds i.toNat v)) }) (o':=.list _ ((vs'.map ab).set i.toNat (ab v))) (vC hs) ⟨vD hs,rfl,rfl⟩ q rfl rfl λF dd=>⟨vs'.set i.toNat v,n',(g9 _ g (by rw[e];rfl)).trans (aj some e),by simp⟩) hr);unfold big at h3;lia
 ·obtain⟨_,_,q,hz,hr⟩:=iM h
  obtain⟨lo,ob,kvs',g,hd,rfl⟩:=iA S O q;rw[ef] at hz;have hD:=Heap.dictOf_iff.mpr ⟨ob,g,hd⟩;have nd:(kvs'.map (·.1)).Nodup:=let ⟨_,_,_,_,_,_,_,_,hn⟩:=hD;hn;rw[Ow k v kvs' nd] at hr;refine wpAny_setItem_pairs (bz _ wd k t) hD (λh' hm hs=>?_) (dN hz);obtain⟨o',e1,e2⟩:=Heap.dictOf_iff.mp hm;exact hQ _ _ (S.set (o':=.dict (0,0) ((stored kvs' k v).map kI)) (vC hs) ⟨vD hs,rfl,rfl⟩ q rfl rfl λF dd=>⟨⟨o',_,e1,e2,rfl⟩,λz=>absurd z ()⟩) hr
 ·exact ck h
theorem I4{a:Va}(S:St c l P s)(h:bD .upper [ab a] P Q):wpAny (MM wd) A (call (.builtin "str.upper") [a]) (Ok c l Q) E s:=by obtain⟨x,t,rfl,rfl,hq⟩:=iN h;refine SC.upper ⋯ ((S.toks _).ok ?_);have:Txt.upper "abcdefghijklmnopqrstuvwxyz"="ABCDEFGHIJKLMNOPQRSTUVWXYZ":=⋯;rw[this];exact hq
theorem IY{a b:Va}(S:St c l P s)(h:bD .split [ab a,ab b] P Q):wpAny (MM wd) A (call (.builtin "str.split") [a,b]) (Ok c l Q) E s:=by
 obtain⟨x,t,rfl,h⟩:=iN h;obtain⟨y,u,rfl,⟨rfl,hx⟩,hq⟩:=iN h;have h1:(decide (x.length<Str.length "::")||decide (Builtin.Str.strKind x<Builtin.Str.strKind "::"))=true:=by rcases hx with rfl|rfl<;>decide +kernel
 exact call_meets PySem.F.slot_str_split (typeIs_str _ _ _) PySem.F.entry_str_split (PySem.F.args_str_split_2 _ _) (meets_str_split_cannot_occur x "::" t u h1)
  (S.made (t:=s.toks) (o:=.list (0,0) [.str x 0]) cM (f7 _) (fj _ rfl) rfl (λF d e=>⟨[.str x t],0,e,rfl⟩) hq)
theorem vt{value slice:Expr}{vl vu vk:Va}{lo hi st:Op Int}{ops:List Va}{a:Ad}{vs us:List Va}{n:Nat}(S:St c l P s)(g:s.heap.get? a=some (W.listOf vs.toArray n))(hz:vs.length<big)
  (pl:IsPart vl lo) (pu:IsPart vu hi) (pk:IsPart vk st) (h0:st≠some 0) (e:slicePick vs.toArray lo hi st=us.toArray) (hq:cE P (.list (0,0) (us.map ab)) Q)
  (hs:subscripted slice false (.ref a) (.ref s.heap.objs.size)=operate ops (getItem (.ref a) (.ref s.heap.objs.size))):
  wpAny (MM wd) A (subscriptTail value slice (.ref a) (.ref s.heap.objs.size)) (Ok c l Q) E { s with heap:=s.heap.push { cls:=.type "slice",data:=.fields #[vl,vu,vk] } }:=by
 have hl:=(bK g).push { cls:=.type "slice",data:=.fields #[vl,vu,vk] };refine kF (Heap.IsList.typeIs (s:={ s with heap:=s.heap.push { cls:=.type "slice",data:=.fields #[vl,vu,vk] } }) hl) PySem.F.slot_list_getitem.lookup
  (wpAny_getItem_list_slice hl (Heap.IsSliceOf.new ..) pl pu pk h0 ?_ (by rw[ie];exact dN hz)) hs
 have k:gS s.heap ((s.heap.push { cls:=.type "slice",data:=.fields #[vl,vu,vk] }).push { cls:=.type "list",data:=.seq (slicePick vs.toArray lo hi st) }):=λb o q=>cM _ _ (cM _ _ q);refine S.made (t:=s.toks) (o:=.list (0,0) (us.map ab)) k ?_ (fj _ rfl) rfl (λF d q=>⟨us,0,?_,rfl⟩) hq
 ·rw[jc];exact ki _
 ·rw[q,e]
theorem O9{value slice:Expr}{o vk:Va}(S:St c l P s)(h:bD .rev [ab o] P Q)(pk:IsPart vk (some (-1)))
  (hs:∀ o i,subscripted slice false o i=operate [o,i] (getItem o i)):
  wpAny (MM wd) A (subscriptTail value slice o (.ref s.heap.objs.size)) (Ok c l Q) E { s with heap:=s.heap.push { cls:=.type "slice",data:=.fields #[.none,.none,vk] } }:=by obtain⟨x,rfl,h⟩:=cC h;obtain⟨_,_,q,hz,hq⟩:=fB h;obtain⟨vs',n,g,rfl⟩:=eT S q;rw[ef] at hz;exact vt (us:=vs'.reverse) S g hz .none .none pk () (krv_pick _) (by rw[jl];exact hq) (hs _ _)
theorem Lz{value slice:Expr}{o k:Va}(S:St c l P s)(O:bM c)(h:bD .upto [ab o,ab k] P Q)
  (hs:∀ o i,subscripted slice false o i=operate [i,o] (getItem o i)):
  wpAny (MM wd) A (subscriptTail value slice o (.ref s.heap.objs.size)) (Ok c l Q) E { s with heap:=s.heap.push { cls:=.type "slice",data:=.fields #[.none,k,.none] } }:=by obtain⟨x,rfl,h⟩:=cC h;obtain⟨k,t,rfl,h⟩:=dK h;obtain⟨_,_,q,⟨hz,h1,h2⟩,hq⟩:=fB (h (yU S O));obtain⟨vs',n,g,rfl⟩:=nE S O q;rw[ef] at hz;obtain⟨j,rfl⟩:=Int.eq_ofNat_of_zero_le h1;exact vt (us:=vs'.take j) S g hz .none (.int _ _) .none () (slicePick_upto' _ j) (by rw[List.map_take];exact hq) (hs _ _)
theorem IU{value slice:Expr}{o:Va}{t:Tok}(S:St c l P s)(h:bD .from1 [ab o] P Q)
  (hs:∀ o i,subscripted slice false o i=operate [i,o] (getItem o i)):
  wpAny (MM wd) A (subscriptTail value slice o (.ref s.heap.objs.size)) (Ok c l Q) E { s with heap:=s.heap.push { cls:=.type "slice",data:=.fields #[.int 1 t,.none,.none] } }:=by
 rcases pK h with⟨_,_,_,h⟩|⟨x,u,rfl,hx,hq⟩|⟨x,rfl,h⟩
 ·exact ck h
 ·refine kF (typeIs_str _ x u) PySem.F.slot_str_getitem.lookup (wpAny_getItem_str_slice (l:=some (1,t)) (u:=none) (st:=none) ⟨_,fj _ rfl,rfl,rfl⟩ rfl ?_) (hs _ _)
  have:sliceMade x u (some (1,t)) none none=.str "":=by rcases hx with rfl|rfl<;>rfl
  rw[this];exact⟨⋯,⟨P,S.kept cM,hq⟩⟩
 ·obtain⟨_,_,q,hz,hq⟩:=fB h
  obtain⟨vs',n,g,rfl⟩:=eT S q;rw[ef] at hz;exact vt (us:=vs'.drop 1) S g hz (.int _ _) .none .none () (slicePick_from' _ 1) (by rw[List.map_drop];exact hq) (hs _ _)
section
section
open PySem.SeqAt
theorem of_rc{a b:Va}{k:Bool}{Q':VS}(h:RcAt A s a b k)(hq:Q' (.bool k) s):wpAny (MM wd) A (compareOp .Eq a b) Q' E s:=h _ wd E Q' hq
theorem of_rcne{a b:Va}{k:Bool}{Q':VS}(h:RcNeAt A s a b k)(hq:Q' (.bool k) s):wpAny (MM wd) A (compareOp .NotEq a b) Q' E s:=h _ wd E Q' hq
theorem sY{α:Type}[BEq α][LawfulBEq α][DecidableEq α](a b:α):decide (a=b)=(a==b):=by by_cases h:a=b<;>simp [h]
inductive By:Va->Va->Bool->Prop
 | nn:By .none .none true
 | ni (i t):By .none (.int i t) false
 | ns (x t):By .none (.str x t) false
 | bb (a b):By (.bool a) (.bool b) (a==b)
 | jn (i t):By (.int i t) .none false
 | ii (i t j u):By (.int i t) (.int j u) (i==j)
 | js (i t x u):By (.int i t) (.str x u) false
 | sn (x t):By (.str x t) .none false
 | si (x t i u):By (.str x t) (.int i u) false
 | ss (x t y u):By (.str x t) (.str y u) (x==y)
theorem Qy{i:Int}{t:Tok}{b:Va}{r:Bool}(h:Uk i (ab b)=some r):By (.int i t) b r:=by
 cases b<;>first|cases h;done|skip
 ·cases h;exact .jn ..
 ·cases h;rw[sY];exact .ii ..
 ·cases h;exact .js ..
theorem QA{i:Str}{t:Tok}{b:Va}{r:Bool}(h:Ul i (ab b)=some r):By (.str i t) b r:=by
 cases b<;>first|cases h;done|skip
 ·cases h;exact .sn ..
 ·cases h;exact .si ..
 ·cases h;rw[sY];exact .ss ..
theorem MF{i:Bool}{b:Va}{r:Bool}(h:eqB i (ab b)=some r):By (.bool i) b r:=by
 cases b<;>first|cases h;done|skip
 cases h;exact .bb ..
theorem Qz{b:Va}{r:Bool}(h:Td (ab b)=some r):By .none b r:=by
 cases b<;>first|cases h;done|skip
 ·cases h;exact .nn
 ·cases h;exact .ni ..
 ·cases h;exact .ns ..
theorem MG{a b:Va}{r:Bool}(h:eqv (ab a) (ab b)=some r):By a b r:=by cases a<;>first|cases h;done|exact Qz h|exact MF h|exact Qy h|exact QA h
theorem NY{a b:Va}{r:Bool}(h:eqv (ab a) (ab b)=some r):RcAt A s a b r:=by
 cases MG h with
 | nn=>exact RcAt.none_none
 | ni=>exact RcAt.none_int _ _
 | ns=>exact RcAt.none_str _ _
 | bb=>exact RcAt.bool_bool _ _
 | jn=>exact RcAt.int_none _ _
 | ii=>exact RcAt.int_int _ _ _ _
 | js=>exact RcAt.int_str _ _ _ _
 | sn=>exact RcAt.str_none _ _
 | si=>exact RcAt.str_int _ _ _ _
 | ss=>exact RcAt.str_str _ _ _ _
theorem Hs{a b:Va}{r:Bool}(h:eqv (ab a) (ab b)=some r):RcNeAt A s a b (!r):=by
 cases MG h with
 | nn=>exact RcNeAt.none_none
 | ni=>exact RcNeAt.none_int _ _
 | ns=>exact RcNeAt.none_str _ _
 | bb=>exact RcNeAt.bool_bool _ _
 | jn=>exact RcNeAt.int_none _ _
 | ii=>exact RcNeAt.int_int _ _ _ _
 | js=>exact RcNeAt.int_str _ _ _ _
 | sn=>exact RcNeAt.str_none _ _
 | si=>exact RcNeAt.str_int _ _ _ _
 | ss=>exact RcNeAt.str_str _ _ _ _
theorem Rv{a b:Va}(S:St c l P s)(h:bD .eq [ab a,ab b] P Q):wpAny (MM wd) A (compareOp .Eq a b) (Ok c l Q) E s:=by obtain⟨r,hr,h⟩:=mY h;exact of_rc (NY hr) (S.ok h)
theorem NX{a b:Va}{r:Bool}(h:QB (ab a) (ab b)=some r):EqAt A s a b r:=by
 cases a<;>first|cases h;done|skip
 ·cases MF h;exact EqAt.bool_bool _ _
 ·cases b<;>first|cases h;done|skip
  cases h;rw[sY];exact EqAt.int_int _ _ _ _
 ·cases b<;>first|cases h;done|skip
  cases h;rw[sY];exact EqAt.str_str _ _ _ _
noncomputable def Qx(vs us:List Va)(j:Nat):Bool:=((vs[j]?).bind λa=>(us[j]?).bind λb=>QB a b).getD false
theorem uE:∀{vs us:List Va} {r:Bool},oO vs us=some r->vs.length=us.length/\(∀ j a b,vs[j]?=some a->us[j]?=some b->QB a b=some (Qx vs us j))/\(List.range vs.length).all (Qx vs us)=r:=by
 intro vs;induction vs with
 | nil=>
  intro us r h;cases us with
  | nil=>exact⟨rfl,λj a b h1=>bB h1,kr h⟩
  | cons b bs=>exact bB h
 | cons a as ih=>
  intro us r h;cases us with
  | nil=>exact bB h
  | cons b bs=>
  refine aN h λx hx h=>dJ h λy hy h=>?_;have⟨h1,h2,h3⟩:=ih hy;have e0:Qx (a::as) (b::bs) 0=x:=by show(QB a b).getD false=x;rw[hx];rfl
  refine⟨aj (·+1) h1,λj c d hc hd=>?_,?_⟩
  ·cases j with
   | zero=>obtain rfl:=kr hc;obtain rfl:=kr hd;rw[e0];exact hx
   | succ j=>exact h2 j c d hc hd
  ·rw[i9,List.range_succ_eq_map,List.all_cons,List.all_map,e0]
   show(x&&(List.range as.length).all (Qx as bs))=r;rw[h3];exact h
theorem MN{vs us:List Va}{r:Bool}(h:oO (vs.map ab) (us.map ab)=some r):∀ j (h1:j<vs.toArray.size) (h2:j<us.toArray.size),EqAt A s vs.toArray[j] us.toArray[j] (Qx (vs.map ab) (us.map ab) j):=λj h1 h2=>by obtain⟨_,q,_⟩:=uE h;rw[ie] at h1 h2;exact NX (q j (ab vs[j]) (ab us[j]) (by simp [h1]) (by simp [h2]))
theorem AM{o:Op PO}{r:Bool}(h:IC o=some r):(∃ vs,o=some (.tup vs))/\r=true:=by
 obtain _|o:=o
 ·cases h
 ·cases o<;>first|cases h;done|exact⟨⟨_,rfl⟩,(kr h).symm⟩
theorem K5{o p:Op PO}{r:Bool}(h:OT o p=some r):(∃ t vs,o=some (.list t vs)/\OS vs p=some r)\/∃ vs,o=some (.tup vs)/\OU vs p=some r:=by
 obtain _|o:=o
 ·cases h
 ·cases o<;>first|cases h;done|exact .inl ⟨_,_,rfl,h⟩|exact .inr ⟨_,rfl,h⟩
theorem IB{p:Op PO}{vs:List Va}{r:Bool}(h:OS vs p=some r):∃ t us,p=some (.list t us)/\(if vs.length=us.length then(oO vs us).map (!·) else some true)=some r:=by
 obtain _|o:=p
 ·cases h
 ·cases o<;>first|cases h;done|exact⟨_,_,rfl,h⟩
theorem ID{p:Op PO}{vs:List Va}{r:Bool}(h:OU vs p=some r):∃ us,p=some (.tup us)/\(oO vs us).map (!·)=some r:=by
 obtain _|o:=p
 ·cases h
 ·cases o<;>first|cases h;done|exact⟨_,rfl,h⟩
theorem K6{a b:Va}{r:Bool}(h:Uw P (ab a) (ab b)=some r):(eqv (ab a) (ab b)).map (!·)=some r\/(∃ x y,a=.ref x/\b=.ref y/\OT (P x) (P y)=some r)\/(∃ x,a=.ref x/\b=.none/\IC (P x)=some r)\/∃ x,a=.none/\b=.ref x/\IC (P x)=some r:=by
 cases a<;>first|exact .inl h|skip
 ·cases b<;>first|exact .inl h|exact .inr (.inr (.inr ⟨_,rfl,rfl,h⟩))
 ·cases b<;>first|cases h;done|exact .inr (.inl ⟨_,_,rfl,rfl,h⟩)|exact .inr (.inr (.inl ⟨_,rfl,rfl,h⟩))
theorem RA{a b:Va}(S:St c l P s)(h:bD .ne [ab a,ab b] P Q)(hu:A.units<cLine):wpAny (MM wd) A (compareOp .NotEq a b) (Ok c l Q) E s:=by
 obtain⟨r,hr,h⟩:=mY h;rcases K6 hr with hr|⟨x,y,rfl,rfl,hr⟩|⟨x,rfl,rfl,hr⟩|⟨x,rfl,rfl,hr⟩
 ·obtain⟨x,q,rfl⟩:=dw hr
  exact of_rcne (Hs q) (S.ok h)
 ·rcases K5 hr with⟨_,_,q1,hr⟩|⟨_,q1,hr⟩
  ·obtain⟨_,_,q2,hr⟩:=IB hr
   obtain⟨vs',n,g1,rfl⟩:=eT S q1;obtain⟨us',n2,g2,rfl⟩:=eT S q2;simp only[ef] at hr;by_cases hl:vs'.length=us'.length
   ·rw[ai hl] at hr
    obtain⟨z,q,rfl⟩:=dw hr;obtain⟨_,_,h3⟩:=uE q;refine of_rcne (RcNeAt.lists (bK g1) (bK g2) (by exact hl) hu (MN q)) (S.ok ?_);rw[ef] at h3;simp only[ie,h3];exact h
   ·rw[aa hl] at hr
    cases hr;exact of_rcne (RcNeAt.lists_lengths (bK g1) (bK g2) (by simpa using hl) hu) (S.ok h)
  ·obtain⟨_,q2,hr⟩:=ID hr
   obtain⟨vs',n,g1,rfl⟩:=mQ S q1;obtain⟨us',n2,g2,rfl⟩:=mQ S q2;obtain⟨z,q,rfl⟩:=dw hr;obtain⟨h1,_,h3⟩:=uE q;rw[ef,ef] at h1;refine of_rcne (RcNeAt.tuples (kR g1) (kR g2) hu (MN q)) (S.ok ?_);rw[ef] at h3;simp only[ie,<-h1,Nat.min_self,h3,bg,Bool.and_true];exact h
 ·obtain⟨⟨_,q1⟩,rfl⟩:=AM hr
  obtain⟨vs',n,g1,rfl⟩:=mQ S q1;exact of_rcne (RcNeAt.tuple_none (kR g1) hu) (S.ok h)
 ·obtain⟨⟨_,q1⟩,rfl⟩:=AM hr
  obtain⟨vs',n,g1,rfl⟩:=mQ S q1;exact of_rcne (RcNeAt.none_tuple (kR g1) hu) (S.ok h)
structure Gm(K:Frag):Prop where
 own:∀ C,(eV.lookup C).isSome=true->plainGet K C "__class__"=true/\hasDictIn K C=true/\findIn K (.ref C) "__class__"=some (some (.builtin "object.__class__"))/\mroIn K C (.type "object")=some true
 g1:specialIn K (.builtin "object.__class__") "__get__"=some (some (.builtin "getset_descriptor.__get__"))
 g2:takesIn K (.builtin "object.__class__")=some true
 cls:∀ C B,(eV.lookup C).isSome=true->C7 B=true->kitOne K (.ref C) (.ref B)=some (lC C B)
 num:∀ C,(eV.lookup C).isSome=true->kitOne K (.ref C) (.type "bool")=some false/\kitOne K (.ref C) (.type "int")=some false/\kitOne K (.ref C) (.type "str")=some false
 pri:∀ B,C7 B=true->kitOne K (.type "int") (.ref B)=some false/\kitOne K (.type "str") (.ref B)=some false/\kitOne K (.type "bool") (.ref B)=some false/\kitOne K (.type "NoneType") (.ref B)=some false
 nn:kitOne K (.type "NoneType") (.type "bool")=some false/\kitOne K (.type "NoneType") (.type "int")=some false/\kitOne K (.type "NoneType") (.type "str")=some false
 bn:kitOne K (.type "bool") (.type "bool")=some true/\kitOne K (.type "bool") (.type "int")=some true/\kitOne K (.type "bool") (.type "str")=some false
 ii:kitOne K (.type "int") (.type "bool")=some false/\kitOne K (.type "int") (.type "int")=some true/\kitOne K (.type "int") (.type "str")=some false
 ss:kitOne K (.type "str") (.type "bool")=some false/\kitOne K (.type "str") (.type "int")=some false/\kitOne K (.type "str") (.type "str")=some true
theorem Av{C a:Ad}{fs:List (Nat × Va)}(I:Gm K)(S:St c l P s)(hP:P a=some (.inst C fs))(hC:(eV.lookup C).isSome=true):∃ ox od,KitX K (.ref a) (.ref C) (λh=>InstAt h a ox C (some od))/\InstAt s.heap a ox C (some od):=by obtain⟨m,G,D,S⟩:=S;obtain⟨es,n,hr,hd,J⟩:=(S.sat.rel a _ hP).2.yE;obtain⟨h1,h2,h3,h4⟩:=I.own C hC;exact⟨_,_,kitx_own h1 h2 h3 I.g1 I.g2 h4,J⟩
theorem E6{a:Va}{B:Ad}(I:Gm K)(S:St c l P s)(O:bM c)(h:bD (.isinst B) [ab a] P Q):wpAny (MM wd) A (call (.builtin "isinstance") [a,.ref B]) (Ok c l Q) E s:=by
 obtain⟨hB,h⟩:=h;have X:K.In s.heap:=by obtain⟨m,G,D,S⟩:=S;exact O.X.keeps S.sat.stay
 obtain⟨p1,p2,p3,p4⟩:=I.pri B hB;rcases C3 h with⟨rfl,h⟩|⟨_,rfl,h⟩|⟨_,_,rfl,h⟩|⟨_,_,rfl,h⟩|⟨x,rfl,h⟩
 ·exact bk kitx_none X trivial p4 (λq=>nomatch q) λtk=>(S.toks _).ok h
 ·exact bk kitx_bool X trivial p3 (λq=>nomatch q) λtk=>(S.toks _).ok h
 ·exact bk kitx_int X trivial p1 (λq=>nomatch q) λtk=>(S.toks _).ok h
 ·exact bk kitx_str X trivial p2 (λq=>nomatch q) λtk=>(S.toks _).ok h
 ·obtain⟨_,_,q,h1,h2⟩:=DI h
  obtain⟨ox,od,Z,J⟩:=Av I S q h1;exact bk Z X J (I.cls _ B h1 hB) (λq=>nomatch q) λtk=>(S.toks _).ok h2
theorem IW{a:Va}{t:String}(I:Gm K)(S:St c l P s)(O:bM c)(ht:t="bool"\/t="int"\/t="str")(h:bD (.jH t) [ab a] P Q):wpAny (MM wd) A (call (.builtin "isinstance") [a,.type t]) (Ok c l Q) E s:=by
 have X:K.In s.heap:=by obtain⟨m,G,D,S⟩:=S;exact O.X.keeps S.sat.stay
 rcases C3 h with⟨rfl,h⟩|⟨_,rfl,h⟩|⟨_,_,rfl,h⟩|⟨_,_,rfl,h⟩|⟨x,rfl,h⟩
 ·rcases ht with rfl|rfl|rfl
  ·exact bk kitx_none X trivial I.nn.1 (λq=>nomatch q) λtk=>(S.toks _).ok h
  ·exact bk kitx_none X trivial I.nn.2.1 (λq=>nomatch q) λtk=>(S.toks _).ok h
  ·exact bk kitx_none X trivial I.nn.2.2 (λq=>nomatch q) λtk=>(S.toks _).ok h
 ·rcases ht with rfl|rfl|rfl
  ·exact bk kitx_bool X trivial I.bn.1 (λq=>nomatch q) λtk=>(S.toks _).ok h
  ·exact bk kitx_bool X trivial I.bn.2.1 (λq=>nomatch q) λtk=>(S.toks _).ok h
  ·exact bk kitx_bool X trivial I.bn.2.2 (λq=>nomatch q) λtk=>(S.toks _).ok h
 ·rcases ht with rfl|rfl|rfl
  ·exact bk kitx_int X trivial I.ii.1 (λq=>nomatch q) λtk=>(S.toks _).ok h
  ·exact bk kitx_int X trivial I.ii.2.1 (λq=>nomatch q) λtk=>(S.toks _).ok h
  ·exact bk kitx_int X trivial I.ii.2.2 (λq=>nomatch q) λtk=>(S.toks _).ok h
 ·rcases ht with rfl|rfl|rfl
  ·exact bk kitx_str X trivial I.ss.1 (λq=>nomatch q) λtk=>(S.toks _).ok h
  ·exact bk kitx_str X trivial I.ss.2.1 (λq=>nomatch q) λtk=>(S.toks _).ok h
  ·exact bk kitx_str X trivial I.ss.2.2 (λq=>nomatch q) λtk=>(S.toks _).ok h
 ·obtain⟨_,_,q,h1,h2⟩:=DI h
  obtain⟨ox,od,Z,J⟩:=Av I S q h1;obtain⟨n1,n2,n3⟩:=I.num _ h1;rcases ht with rfl|rfl|rfl
  ·exact bk Z X J n1 (λq=>nomatch q) λtk=>(S.toks _).ok h2
  ·exact bk Z X J n2 (λq=>nomatch q) λtk=>(S.toks _).ok h2
  ·exact bk Z X J n3 (λq=>nomatch q) λtk=>(S.toks _).ok h2
end
end
section
open PySem.Builtin
section
variable{K:Frag}
theorem DW{h:Heap}:Looks (model pw wd) h (typeOf (.type "ValueError")) (.type "type"):=Looks.of_pure (by kernel_rfl)
theorem Gg{pl:Sem Bool}{Q:Va × List Va->Sh->Prop}(X:K.In s.heap)(h:Q (.builtin "ValueError.__init__",[]) { s with toks:=s.toks+1 }):wpAny (model pw wd) A (getMethod (.type "ValueError") "__init__" pl) Q E s:=by
 have hg:Looks (model pw wd) s.heap (specialOf (.type "ValueError") "__getattribute__") (some (.builtin "type.__getattribute__")):=DW.andThen (Looks.of_pure PySem.W.KF.slot_tga.lookup);unfold getMethod;refine af (hg.here ?_);dsimp only;rw[ai canon_tga];refine af (ak (Q:=λv s'=>v=.builtin "ValueError.__init__"/\s'={ s with toks:=s.toks+1 }) ?_ (λv s' z=>by obtain⟨rfl,rfl⟩:=z;exact aq h) λq q z=>z);refine cls_open (mc:=.type "type") (hook:=none) X ?_ DW (by kernel_rfl) (looks_hook X (by rfl)) (by kernel_rfl) (r:=.val (.builtin "ValueError.__init__")) (by kernel_rfl) ?_
 ·exact Looks.of_pure (by kernel_rfl)
 ·exact aq (by show wpAny _ _ (handedOut _) _ _ _;rw[handedOut_of (by kernel_rfl)];exact aq ⟨rfl,rfl⟩)
end
variable{h:Heap}{g:Array GenState}{d:Drawn}{t:Nat}{os:OsState}
theorem wj{M:Model}{e:Ad}{oe:Obj}{rest:List Va}{Q:Unit->Sh->Prop}
  (hC:fE h) (he:h.get? e=some oe) (hcls:oe.cls=.ref 785) (hq:Q ⟨⟩ ⟨h,g,d,t,os⟩):
  wpAny M A (checkBuiltinCall "ValueError.__init__" ⟨.ref e::rest,[]⟩) Q E ⟨h,g,d,t,os⟩:=by
 have hC:h.get? 785=some JU:=hC;have F:=jf;have hcB:(Value.ref 785::kO).contains (.type "ValueError")=true:=by decide
 have hshort:=F.noStar;have h1:=F.initKind;have h2:=F.initSplit;have h3:=F.initRow;clear F;delta checkBuiltinCall;generalize builtinKind "ValueError.__init__"=k1 at h1 ⊢;generalize splitId "ValueError.__init__"=k2 at h2 ⊢;generalize Manifest.signature? "ValueError.__init__"=k3 at h3 ⊢;subst h3 h1 h2;dsimp only
 repeat (first|(with_reducible refine bh he ?_;rw[hcls])|with_reducible refine bh hC ?_|(with_reducible refine b8 hC ?_;rw[hcB])|wp_step)
 refine wpAny_onRaise ?_;rw[show ∀(a b:String) (n:Nat),Bind.check ⟨.positional,"*","ValueError",.self,[⟨"args",.varPos,false⟩]⟩ a b n (List.map (λx=>x.fst) ({ pos:=Value.ref e::rest }:Args).kw)=pure ⟨⟩ from
  λa b n=>check_star_args _ _ _ _ _ _]
 exact aq hq
theorem ym{e t0:Ad}{rest:List Va}{Q:VS}(hC:fE h)(he:h.get? e=some (⟨.ref 785,none,fH t0,#[]⟩:Obj))(hrest:rest.length<=sizeLine)
  (hq:∀ h',(∀ b o,b≠e->h.get? b=some o->h'.get? b=some o)->h'.get? e=some (⟨.ref 785,none,fH h.objs.size,#[]⟩:Obj)->Q .none ⟨h',g,d,t,os⟩):
  wpAny (model pw wd) A (call (.builtin "ValueError.__init__") (.ref e::rest)) Q E ⟨h,g,d,t,os⟩:=by
 have F:=jf;refine wpAny_call (codeAny_call_builtin F.init.plain F.initEntry (wj hC he rfl ?_))
 wp_walk
 refine hq _ (λb o hb eb=>?_) ?_
 ·exact(ia _ _ (gz hb)).trans (ek _ eb)
 ·exact g9 _ (ek _ he) rfl
theorem E8{e:Ad}{v:Va}(hC:fE s.heap)(S:St c l P s)(hP:P e=some (.raw 785))(hQ:Q .none P):wpAny (MM wd) A (call (.builtin "ValueError.__init__") [.ref e,v]) (Ok c l Q) E s:=by
 obtain⟨m,G,D,S⟩:=S;obtain⟨hb,t0,he⟩:=S.sat.rel e _ hP;obtain⟨hp,g,d,t,os⟩:=s;refine ym hC he (by size_fits) λh' k1 k2=>⟨P,⟨m,G,D,?_⟩,hQ⟩
 have T:=S.sat.set (h':=h') (o':=.raw 785) (.gY S.sat.stay k1 hb) hP rfl rfl ⟨_,k2⟩
 have:upd P e (.raw 785)=P:=by
  funext b;unfold upd;split
  ·rename_i q;rw[q,hP]
  ·rfl
 rw[this] at T;exact S.moved T rfl rfl
end
section
structure CQ(K:Frag)(C:Ad)(name:Str)(f:Ad):Prop where
 pg:plainGet K C name=true
 fi:findIn K (.ref C) name=some (some (.ref f))
 fn:isFn K (.ref f)=true
 kp:keepIn K (.ref f)=true
noncomputable def tH(K:Frag)(C:Ad)(name:Str)(f:Ad):Bool:=plainGet K C name&&(findIn K (.ref C) name==some (some (.ref f)))&&isFn K (.ref f)&&keepIn K (.ref f)
theorem CQ.of{K:Frag}{C f:Ad}{name:Str}(h:tH K C name f=true):CQ K C name f:=by unfold tH at h;simp only[e9,az] at h;exact⟨h.1.1.1,h.1.1.2,h.1.2,h.2⟩
structure w7(K:Frag)(C f:Ad):Prop where
 Vj:makesIn K C=true
 fi:findIn K (.ref C) "__init__"=some (some (.ref f))
 fn:isFn K (.ref f)=true
 kc:keepIn K (.ref C)=true
 kf:keepIn K (.ref f)=true
 ga:specialIn K (.ref C) "__getattribute__"=some (some (.builtin "type.__getattribute__"))
 ty:typeIn K (.ref C)=some (.type "type")
 rd:readsIn K C (.type "type")=true
 fc:findCls K (.ref C) (.type "type") "__init__"=some (.val (.ref f))
noncomputable def isVal(f:Ad):Op CFound->Bool
 | some (.val (.ref g))=>f==g
 | _=>false
noncomputable def tF(K:Frag)(C f:Ad):Bool:=makesIn K C&&(findIn K (.ref C) "__init__"==some (some (.ref f)))&&isFn K (.ref f)&&keepIn K (.ref C)&&keepIn K (.ref f)&&
 (specialIn K (.ref C) "__getattribute__"==some (some (.builtin "type.__getattribute__")))&&(typeIn K (.ref C)==some (.type "type"))&&readsIn K C (.type "type")&&isVal f (findCls K (.ref C) (.type "type") "__init__")
theorem Ay{f:Ad}:∀{o:Op CFound},isVal f o=true->o=some (.val (.ref f))
 | none,h=>gP h
 | some (.get ..),h=>gP h
 | some (.val v),h=>by cases v<;>first|exact gP h|exact aj (λa=>some (CFound.val (Value.ref a))) (beq_iff_eq.mp h).symm
theorem w7.of{K:Frag}{C f:Ad}(h:tF K C f=true):w7 K C f:=by unfold tF at h;simp only[e9,az] at h;obtain⟨⟨⟨⟨⟨⟨⟨⟨h1,h2⟩,h3⟩,h4⟩,h5⟩,h6⟩,h7⟩,h8⟩,h9⟩:=h;exact⟨h1,h2,h3,h4,h5,h6,h7,h8,Ay h9⟩
structure DZ(K:Frag)(C f:Ad):Prop where
 kf:keepIn K (.ref f)=true
 ga:specialIn K (.ref C) "__getattribute__"=some (some (.builtin "type.__getattribute__"))
 ty:typeIn K (.ref C)=some (.type "type")
 rd:readsIn K C (.type "type")=true
 fc:findCls K (.ref C) (.type "type") "__init__"=some (.val (.ref f))
theorem w7.cls{K:Frag}{C f:Ad}(M:w7 K C f):DZ K C f:=⟨M.kf,M.ga,M.ty,M.rd,M.fc⟩
noncomputable def GZ(K:Frag)(C f:Ad):Bool:=keepIn K (.ref f)&&(specialIn K (.ref C) "__getattribute__"==some (some (.builtin "type.__getattribute__")))&&(typeIn K (.ref C)==some (.type "type"))&&readsIn K C (.type "type")&&isVal f (findCls K (.ref C) (.type "type") "__init__")
theorem DZ.of{K:Frag}{C f:Ad}(h:GZ K C f=true):DZ K C f:=by unfold GZ at h;simp only[e9,az] at h;obtain⟨⟨⟨⟨h1,h2⟩,h3⟩,h4⟩,h5⟩:=h;exact⟨h1,h2,h3,h4,Ay h5⟩
structure PY(K:Frag):Prop where
 exc:rP K
 cls:K.lookup 785=some JU
 xi:findIn K (.ref 785) "__init__"=some (some (.ref 782))
 xf:typeIn K (.ref 782)=some (.type "function")
 Un:DZ K 765 762
theorem PY.at_{K:Frag}(e:PY K){h:Heap}(X:K.In h):fE h:=X _ _ e.cls
structure pA(K:Frag):Prop where
 fld:∀ C x,gQ C x=true->kP K C x=true
 Vk:∀ C m f,bO C m=some f->m≠99->CQ K C (gX.getD m "") f
 Ur:∀ C f,bO C 99=some f->w7 K C f
 ins:Gm K
 act:∀ a,yc.contains a=true->uP K a=true
 ex:PY K
noncomputable def B7(K:Frag):Bool:=HC.all λe=>e.2.all λx=>kP K e.1 x
noncomputable def Ci(K:Frag):Bool:=qg.all λe=>if e.1.2==99 then tF K e.1.1 e.2 else tH K e.1.1 (gX.getD e.1.2 "") e.2
theorem lookup_mem{α β:Type}[BEq α][LawfulBEq α]{l:List (α × β)}{a:α}{b:β}(h:l.lookup a=some b):(a,b)∈l:=by
 induction l with
 | nil=>cases h
 | cons p r ih=>
  rw[f6] at h;cases q:a==p.1 with
  | true=>rw[q] at h;rw[beq_iff_eq.mp q,<-kr h];exact .head _
  | false=>rw[q] at h;exact .tail _ (ih h)
theorem N3{K:Frag}(h:B7 K=true){C:Ad}{x:Nat}(hx:gQ C x=true):kP K C x=true:=dJ (xC hx) λl hl e=>dz (dz h _ (lookup_mem hl)) x (List.contains_iff_mem.mp e)
theorem Iu{K:Frag}(h:Ci K=true){C m f:Nat}(hm:bO C m=some f):(if m==99 then tF K C f else tH K C (gX.getD m "") f)=true:=dz h _ (lookup_mem hm)
noncomputable def uA:List Ad:=[40,62,82,181,228,256,1055]
noncomputable def BH:List Ad:=[40,62,82,120,140,161,181,201,228]
noncomputable def yD(K:Frag):Bool:=
 (uA.all λC=>plainGet K C "__class__"&&hasDictIn K C&&(findIn K (.ref C) "__class__"==some (some (.builtin "object.__class__")))&&(mroIn K C (.type "object")==some true))&&
 (specialIn K (.builtin "object.__class__") "__get__"==some (some (.builtin "getset_descriptor.__get__")))&&(takesIn K (.builtin "object.__class__")==some true)&&
 (uA.all λC=>BH.all λB=>kitOne K (.ref C) (.ref B)==some (lC C B))&&
 (uA.all λC=>kitOne K (.ref C) (.type "bool")==some false&&kitOne K (.ref C) (.type "int")==some false&&kitOne K (.ref C) (.type "str")==some false)&&
 (BH.all λB=>kitOne K (.type "int") (.ref B)==some false&&kitOne K (.type "str") (.ref B)==some false&&kitOne K (.type "bool") (.ref B)==some false&&kitOne K (.type "NoneType") (.ref B)==some false)&&
 (kitOne K (.type "NoneType") (.type "bool")==some false&&kitOne K (.type "NoneType") (.type "int")==some false&&kitOne K (.type "NoneType") (.type "str")==some false)&&
 (kitOne K (.type "bool") (.type "bool")==some true&&kitOne K (.type "bool") (.type "int")==some true&&kitOne K (.type "bool") (.type "str")==some false)&&
 (kitOne K (.type "int") (.type "bool")==some false&&kitOne K (.type "int") (.type "int")==some true&&kitOne K (.type "int") (.type "str")==some false)&&
 (kitOne K (.type "str") (.type "bool")==some false&&kitOne K (.type "str") (.type "int")==some false&&kitOne K (.type "str") (.type "str")==some true)
theorem zp{C:Ad}(h:(eV.lookup C).isSome=true):C∈uA:=by obtain⟨l,hl⟩:=cz h;have:=lookup_mem hl;simp only[eV,kh,Prod.mk.injEq,gk,or_false] at this;simp only[uA,kh,gk,or_false];rcases this with⟨rfl,_⟩|⟨rfl,_⟩|⟨rfl,_⟩|⟨rfl,_⟩|⟨rfl,_⟩|⟨rfl,_⟩|⟨rfl,_⟩<;>simp
theorem CX{B:Ad}(h:C7 B=true):B∈BH:=List.contains_iff_mem.mp h
theorem Od{K:Frag}(h:yD K=true):Gm K:=by
 unfold yD at h;simp only[e9,az] at h;obtain⟨⟨⟨⟨⟨⟨⟨⟨⟨h1,h2⟩,h3⟩,h4⟩,h5⟩,h6⟩,h7⟩,h8⟩,h9⟩,h10⟩:=h;refine⟨λC hC=>?_,h2,h3,λC B hC hB=>?_,λC hC=>?_,λB hB=>?_,⟨h7.1.1,h7.1.2,h7.2⟩,⟨h8.1.1,h8.1.2,h8.2⟩,⟨h9.1.1,h9.1.2,h9.2⟩,⟨h10.1.1,h10.1.2,h10.2⟩⟩
 ·have:=dz h1 C (zp hC)
  simp only[e9,az] at this;exact⟨this.1.1.1,this.1.1.2,this.1.2,this.2⟩
 ·exact beq_iff_eq.mp (dz (dz h4 C (zp hC)) B (CX hB))
 ·have:=dz h5 C (zp hC)
  simp only[e9,az] at this;exact⟨this.1.1,this.1.2,this.2⟩
 ·have:=dz h6 B (CX hB)
  simp only[e9,az] at this;exact⟨this.1.1.1,this.1.1.2,this.1.2,this.2⟩
theorem pA.of{K:Frag}(h1:B7 K=true)(h2:Ci K=true)(h3:yD K=true)(h4:(yc.all λa=>uP K a)=true)(h5:PY K):pA K:=by
 refine⟨λC x=>N3 h1,λC m f hm hn=>?_,λC f hm=>?_,Od h3,λa ha=>dz h4 a (List.contains_iff_mem.mp ha),h5⟩
 ·have:=Iu h2 hm
  rw[aa (by simpa using hn)] at this;exact .of this
 ·have:=Iu h2 hm
  rw[ai ()] at this;exact .of this
end
section
section
variable{X:XP}{n:Nat}
abbrev kH(c:Fx)(l:Lv)(X:XP)(Q:VQ)(e:Expr)(s:Sh):Prop:=wpAny (MM wd) c.A (eval e c.env) (Ok c l Q) (Exc c X) s
theorem St.ctx{c':Fx}(S:St c l P s)(h1:c'.F=c.F)(h2:c'.env=c.env)(h3:c'.aZ=c.aZ)(h4:c'.base=c.base)(h5:c'.os=c.os):St c' l P s:=by obtain⟨e,f,A,b,mg,mb,o,F,os⟩:=c;obtain⟨e',f',A',b',mg',mb',o',F',os'⟩:=c';subst h1;subst h2;subst h3;subst h4;subst h5;obtain⟨m,G,D,S⟩:=S;exact⟨m,G,D,S.ext,S.loc,S.nM,S.nZ,S.own,S.sat,S.lv,S.gens,S.os⟩
theorem St.Cb(S:St c l P s)(O:bM c):K.In s.heap:=by obtain⟨m,G,D,S⟩:=S;exact O.X.keeps S.sat.stay
theorem Cv(R:bP n c.A):c.A.units<cLine:=by have:=R.un;have e:cLine=9900:=⋯;lia
theorem s8{ns:NS}{x:Str}{i:Nat}(h:ns.findIdx? (λq=>q.1==x)=some i):∃ k,ns[i]?=some (x,k):=by
 obtain⟨hi,h1,_⟩:=List.findIdx?_eq_some_iff_getElem.mp h;refine⟨ns[i].2,?_⟩;rw[f9 hi];have:ns[i].1=x:=by simpa using h1
 rw[<-this]
inductive NT(ns:NS)(x:Str):T->Prop
 | bad:NT ns x .bad
 | con (i:Nat) (v:Va) (hi:ns[i]?=some (x,.globalImplicit)) (hv:gl K x=some v) (hx:(x==("__debug__":Str))=false/\(x==("__classdict__":Str))=false):NT ns x (.con (ab v))
 | loc (i:Nat) (k:NameKind) (hi:ns[i]?=some (x,k)) (hx:(x==("__debug__":Str))=false/\(x==("__classdict__":Str))=false):NT ns x (.loc i)
theorem vh(ns:NS)(x:Str):NT ns x (dP K ns x):=by
 unfold dP;by_cases hx:(x==("__debug__":Str)||x==("__classdict__":Str))=true
 ·rw[ai hx];exact .bad
 rw[aa hx];have hx:=Bool.or_eq_false_iff.mp (Bool.eq_false_iff.mpr hx);cases e:((ns.findIdx? (λq=>q.1==x)).bind λi=>(ns[i]?).bind λq=>M0 K x i q.2) with
 | none=>exact .bad
 | some t=>
  refine aN e λi hi e=>aN e λq hq e=>?_;obtain⟨k,hk⟩:=s8 hi;obtain rfl:=kr (hq.symm.trans hk);by_cases q:k=.globalImplicit
  ·have e:=(ai q).symm.trans e
   exact dJ e λv hv e=>e▸.con i v (q▸hk) hv hx
  ·have e:=(aa q).symm.trans e
   by_cases q:k=.globalExplicit
   ·exact bB ((ai q).symm.trans e)
   ·exact kr ((aa q).symm.trans e)▸.loc i k hk hx
theorem Jt{A:Around}{E:VS}{Q':VS}{x:Str}{pos:Pos}{i:Nat}{v:Va}(S:St c l P s)(O:bM c)(hi:c.env.scope.names[i]?=some (x,.globalImplicit))(hv:gl K x=some v)(hx:(x==("__debug__":Str))=false)(h:Q' v s):wpAny (MM wd) A (eval (.Name x pos) c.env) Q' E s:=by
 obtain⟨m,G,D,S'⟩:=S;have hg:s.heap.Ns c.env.globals c.mg:=by rw[O.qS];exact O.top.g.keeps S'.sat.stay
 have hlk:=aT O.nd hi;refine aN hv λo hu hv=>?_
 ·cases o with
  | some u=>obtain rfl:=kr hv;exact Name_function_global O.knd hlk (loadGlobal_global hg (mg_of O.X O.top.g hu) h) hx
  | none=>
   have hb:s.heap.Ns c.env.builtins c.mb:=by rw[O.JT];exact O.top.b.keeps S'.sat.stay
   have hv:(if (x==("__name__":Str))=true then none else bootBuiltins x)=some v:=hv;by_cases hne:(x==("__name__":Str))=true
   ·rw[ai hne] at hv;exact bB hv
   ·rw[aa hne] at hv
    exact Name_function_global O.knd hlk (loadGlobal_builtin hg (mg_none_of O.X O.top.g hu) hb ((O.top.builtins x (by simpa using hne)).trans hv) h) hx
theorem FE{A:Around}{E:VS}{x:Str}{pos:Pos}(S:St c l P s)(O:bM c)(h:bE n (dP K c.env.scope.names x) l P X Q):wpAny (MM wd) A (eval (.Name x pos) c.env) (Ok c l Q) E s:=by
 have N:=vh c.env.scope.names x;generalize dP K c.env.scope.names x=t at N h;cases N with
 | bad=>exact ck h
 | con i v hi hv hx=>exact Jt S O hi hv hx.1 (S.ok h)
 | loc i k hk hx=>
  replace h:(match l[i]? with
   | some (some v)=>Q v P
   | _=>False):=h
  cases hv:l[i]? with
  | none=>rw[hv] at h;exact ck h
  | some w=>
   rw[hv] at h;cases w with
   | none=>exact ck h
   | some v=>exact S.load O hk hv hx.1 hx.2 λv' e=>S.ok (by rw[e];exact h)
theorem mO{x:Str}{pos:Pos}(S:St c l P s)(O:bM c)(h:bE n (dP K c.env.scope.names x) l P X Q):kH c l X Q (.Name x pos) s:=FE S O h
theorem bM.under{c:Fx}{C:Ad}{args:List Va}(O:bM c):bM { c with A:=c.A.under (.builtin "type.__call__" ⟨.ref C::args,[]⟩) }:=⟨O.hA,O.hh,O.knd,O.qS,O.JT,O.nd,O.nF,O.cF,O.cI,O.fk,O.X,O.top,O.big,O.st,O.frs,O.cA,O.fl,O.NR,O.Nz,O.GX⟩
theorem bP.under{k:Nat}{A:Around}{C:Ad}{args:List Va}(R:bP (k+1) A):bP k (A.under (.builtin "type.__call__" ⟨.ref C::args,[]⟩)):=by
 obtain⟨h1,h2⟩:=R;refine⟨?_,?_⟩
 ·show A.depth+1+k<=990;lia
 ·show A.units+1+10*k<=9890;lia
theorem Exc.ctx{c':Fx}{e:Va}(h:Exc c X e s)(h1:c'.F=c.F)(h2:c'.env=c.env)(h3:c'.aZ=c.aZ)(h4:c'.base=c.base)(h5:c'.os=c.os)(h6:c'.outer=c.outer):Exc c' X e s:=by obtain⟨e0,f,A,b,mg,mb,o,F,os⟩:=c;obtain⟨e',f',A',b',mg',mb',o',F',os'⟩:=c';subst h1;subst h2;subst h3;subst h4;subst h5;subst h6;obtain⟨e,P,m,G,D,B,fl,x,mk,y,z⟩:=h;exact⟨e,P,m,G,D,B,fl,x,mk,⟨⟨y.st.ext,y.st.loc,y.st.nM,y.st.nZ,y.st.own,y.st.sat,y.st.lv,y.st.gens,y.st.os⟩,y.Bu,y.base,y.Oe,y.Hj⟩,z⟩
theorem Ly{C f:Ad}{k:Nat}{args:List Va}(M:w7 K C f)(S:St c l P s)(O:bM c)(R:bP (k+1) c.A)
  (h:∀ a,P a=none->Calls k f (.ref a::args.map ab) (upd P a (.inst C [])) X λv P=>v=.none/\Q (.ref a) P):
  wpAny (MM wd) c.A (call (.ref C) args) (Ok c l Q) (Exc c X) s:=by
 have XK:=S.Cb O;obtain⟨hh,g,d,t,os⟩:=s;have kp:gS hh ((hh.push emptyDict).push (instObj C hh.objs.size)):=λb o q=>cM _ _ (cM _ _ q)
 have ex:((hh.push emptyDict).push (instObj C hh.objs.size)).get? (hh.objs.size+1)=some (instObj C hh.objs.size):=by
  have:=fj (hh.push emptyDict) (o:=instObj C hh.objs.size) rfl
  rwa [jc] at this
 have ed:((hh.push emptyDict).push (instObj C hh.objs.size)).get? hh.objs.size=some emptyDict:=cM _ _ (fj _ rfl);have hsz:((hh.push emptyDict).push (instObj C hh.objs.size)).objs.size=hh.objs.size+2:=by rw[jc,jc]
 obtain⟨hn,S'⟩:=S.BF (s':=⟨(hh.push emptyDict).push (instObj C hh.objs.size),g,d,t,os⟩) (a:=hh.objs.size+1) (d:=hh.objs.size) (o:=.inst C []) kp
  ⟨by show hh.objs.size<=_;rw[hsz];lia,rfl,rfl⟩ (ki _) (f7 _) (Nat.succ_ne_self _) λF=>⟨ex,[],0,ed,.nil⟩
 refine wpAny_call (make_core (makes_of XK M.Vj) (looks_findIn XK M.fi) (λself=>bind_fn XK self (beq_iff_eq.mp M.fn)) (.inl rfl) ?_);refine codeAny_mono (h _ hn { c with A:=c.A.under (.builtin "type.__call__" ⟨.ref C::args,[]⟩) } l _ (.ref (hh.objs.size+1)::args) O.under R.under (S'.ctx rfl rfl rfl rfl rfl) rfl) λr s' hr=>?_;rcases r with e|f
 ·exact Exc.ctx (c:={ c with A:=c.A.under (.builtin "type.__call__" ⟨.ref C::args,[]⟩) }) hr rfl rfl rfl rfl rfl rfl
 ·cases f<;>first|(exact ck hr)|skip
  obtain⟨P',S'',hv,hq⟩:=hr;exact⟨CU hv,P',S''.ctx rfl rfl rfl rfl rfl,hq⟩
theorem ql{f:Ad}{args:List Va}(S:St c l P s)(O:bM c)(R:bP n c.A)(h:Calls n f (args.map ab) P X Q):wpAny (MM wd) c.A (call (.ref f) args) (Ok c l Q) (Exc c X) s:=by
 refine wpAny_call (codeAny_mono (h c l s args O R S rfl) λr s' hr=>?_);rcases r with e|f
 ·exact hr
 ·cases f<;>first|(exact ck hr)|exact hr
end
end
section
section
variable{X:XP}{n:Nat}
inductive T9(c:Fx)(l:Lv)(Q:List Va->PH->Prop)(vs:List Va)(s':Sh):Prop
 | mk (P':PH) (S:St c l P' s') (h:Q (vs.map ab) P')
inductive Tr(c:Fx)(l:Lv)(T F:PH->Prop)(b:Bool)(s':Sh):Prop
 | mk (P':PH) (S:St c l P' s') (h:if b then T P' else F P')
def dM(f:Nat):Prop:=∀(e:Expr) (c:Fx) (l:Lv) (P:PH) (s:Sh) (X:XP) (Q:VQ) (n:Nat),bM c->bP n c.A->St c l P s->bE n (aC K f c.env.scope.names e) l P X Q->kH c l X Q e s
def sd(f:Nat):Prop:=∀(e:Expr) (c:Fx) (l:Lv) (P:PH) (s:Sh) (X:XP) (T F:PH->Prop) (n:Nat),bM c->bP n c.A->St c l P s->bE n (aC K f c.env.scope.names e) l P X (λv P=>aV v (T P) (F P))->wpAny (MM wd) c.A (isTrue e c.env (eval e c.env)) (Tr c l T F) (Exc c X) s
set_option tactic.hygienic true in
theorem yd{v:Va}{T F:Prop}(h:aV (ab v) T F):(v=.bool true/\T)\/(v=.bool false/\F):=by
 cases v<;>first|exact ck h|skip
 rename_i b;cases b
 ·exact .inr ⟨rfl,h⟩
 ·exact .inl ⟨rfl,h⟩
theorem vE{env:Env}:∀{es:List Expr},es.any isStar=false->starEach es env=es.map λe=>(false,eval e env):=by
 intro rr;induction rr with
 | nil=>exactλq=>rfl
 | cons e r ih=>
  intro h;rw[jo,Bool.or_eq_false_iff] at h;have e1:starEach (e::r) env=(false,eval e env)::starEach r env:=by have h:=h.1;cases e<;>first|rfl|exact lz h
  exact e1.trans (aj _ (ih h.2))
theorem iU{env:Env}{pos:Pos}{es:List Expr}(h:es.any isStar=false):backTo pos (starEach es env)=es.map λe=>(false,eval e env):=by rw[vE h];unfold backTo;rw[ir];rfl
theorem Eb{env:Env}{es:List Expr}:(es.map λe=>(false,eval e env)).any (·.1)=false:=by
 rw[List.any_map];induction es with
 | nil=>rfl
 | cons e r ih=>rw[jo,ih];rfl
theorem fL{f:Nat}(H:dM f)(O:bM c)(R:bP n c.A):∀{es:List Expr} {P:PH} {s:Sh} {Q:List Va->PH->Prop},es.any isStar=false->St c l P s->Gi n (mj (aC K f c.env.scope.names) es) l P X Q->wpAny (MM wd) c.A (spliced (es.map λe=>(false,eval e c.env))) (T9 c l Q) (Exc c X) s:=by
 intro rr;induction rr with
 | nil=>exact @λP s Q q S h=>g7 ⟨P,S,h⟩
 | cons e r ih=>intro P s Q hs S h;rw[jo,Bool.or_eq_false_iff] at hs;refine g8 (ak (H e c l P s X _ n O R S h) (λv aF h₁=>?_) λq q x=>x);obtain⟨aP,aH,h₁⟩:=h₁;exact ak (ih hs.2 aH h₁) (λvs cD ⟨P,S,h⟩=>⟨P,S,h⟩) λq q x=>x
theorem dR{g:Expr->T}{es:List Expr}{Q:List Va->PH->Prop}(h:Gi n (fW g es) l P X Q):es.any isStar=false/\Gi n (mj g es) l P X Q:=by
 unfold fW at h;split at h
 ·exact ck h
 ·rename_i q;exact⟨by simpa using q,h⟩
theorem tX{o:Expr}{x:Str}{env:Env}{whole:Sem Va}(h:fG o=false):attributeBase o x env whole=whole:=by
 cases o<;>first|rfl|skip
 cases func<;>first|rfl|skip
 cases args<;>first|rfl|skip
 cases keywords<;>first|rfl|exact lz h
theorem nJ{M:Model}{A:Around}{x:Sem Bool}{T F:PH->Prop}{E:VS}{Q':Bool->Sh->Prop}(h:wpAny M A x (Tr c l T F) E s)(k:∀ r P' s',St c l P' s'->(if r=true then T P' else F P')->Q' r s'):wpAny M A x Q' E s:=ak h (λv s' ⟨P',S',q⟩=>k v P' s' S' q) λj j x=>x
theorem gH{M:Model}{A:Around}{x:Sem (List Va)}{Q:List Va->PH->Prop}{E:VS}{Q':List Va->Sh->Prop}(h:wpAny M A x (T9 c l Q) E s)(k:∀ vs P' s',St c l P' s'->Q (vs.map ab) P'->Q' vs s'):wpAny M A x Q' E s:=ak h (λv s' ⟨P',S',q⟩=>k v P' s' S' q) λj j x=>x
theorem bZ{f:Va}{first:List Va}{pos:Pos}{es:List Expr}{G:Heap->Prop}{Q:VS}{E:VS}{M:Model}{A:Around}{env:Env}(hs:es.any isStar=false)
  (hk:∀ h,G h->∃ k,(k=Keeper.frame\/k=Keeper.machine\/k=Keeper.boundFrame)/\Looks M h (keeperOf f) k)
  (h:wpAny M A (spliced (es.map λe=>(false,eval e env))) (λvs aF=>G aF.heap/\wpAny M A (call f (first++vs)) Q E aF) E s):
  wpAny M A (callWith pos f first (backTo pos (starEach es env)) []) Q E s:=by
 rw[iU hs];refine callWith_of (P:=G) (by rw[Eb];rfl) hk ?_;cases es with
 | nil=>unfold evalArgs;show wpAny M A (spliced []>>=_) _ _ s;refine af (ak h (λvs s' h'=>?_) λq q x=>x);refine ay ?_;exact af (aq (af (aq (aq h'))))
 | cons e r=>exact evalArgs_plain h
theorem p8{id:String}{M:Model}(h:Heap)(_:True):∃ k,(k=Keeper.frame\/k=Keeper.machine\/k=Keeper.boundFrame)/\Looks M h (keeperOf (.builtin id)) k:=⟨.machine,.inr (.inl rfl),Looks.of_pure rfl⟩
theorem tw{id:String}{M:Model}(h:Heap)(_:True):∃ k,(k=Keeper.frame\/k=Keeper.machine\/k=Keeper.boundFrame)/\Looks M h (keeperOf (.type id)) k:=⟨.machine,.inr (.inl rfl),Looks.of_pure rfl⟩
theorem AA{a:Ad}{M:Model}(hf:uP K a=true)(h:Heap)(X:K.In h):∃ k,(k=Keeper.frame\/k=Keeper.machine\/k=Keeper.boundFrame)/\Looks M h (keeperOf (.ref a)) k:=by obtain⟨f,hf⟩:=cz hf;obtain⟨⟨x,y,d,z⟩,h1,h2⟩:=Dj K hf;refine keeps_K ?_ h X;subst h2;unfold keepIn;dsimp only;rw[h1]
set_option tactic.hygienic true in
theorem uJ{a C f:Ad}{fs:List (Nat × Va)}{name:Str}{pl:Sem Bool}{A:Around}{E:VS}{Q':Va × List Va->Sh->Prop}(S:St c l P s)(O:bM c)(hP:P a=some (.inst C fs))(M:CQ K C name f)
  (hf:match lO.findIdx? (·==name) with|some x=>eF x fs=none|none=>True) (h:Q' (.ref f,[.ref a]) s):wpAny (MM wd) A (getMethod (.ref a) name pl) Q' E s:=by
 obtain⟨m,G,D,S⟩:=S;obtain⟨es,k,hr,hd,I⟩:=(S.sat.rel a _ hP).2.yE;refine method_inst (S.fr O) O.X I M.pg M.fi M.fn ?_ h;split at hf
 ·rename_i x hx
  obtain⟨hi,h1,_⟩:=List.findIdx?_eq_some_iff_getElem.mp hx;have l58:lO.length=58:=⋯;have hx58:x<58:=by lia
  have e:nm x=name:=by
   unfold nm;rw[gw,f9 hi]
   simpa using h1
  obtain⟨r,h2,h3⟩:=hr.get hx58;rw[hf] at h3;rw[<-e,h2];cases r with
  | none=>rfl
  | some v=>cases h3
 ·rename_i hx
  have hn:=List.findIdx?_eq_none_iff.mp hx;unfold getL;rw[hr.noRef]
  have:es.find? (·.key.isStr name)=none:=by
   refine List.find?_eq_none.mpr λd hd=>?_
   have key:∀{es:List DictEntry} {fs:List (Nat × Va)},gO es fs->∀ d∈es,∃ x t,x<58/\d.key=.str (nm x) t:=by
    intro es fs h;induction h with
    | nil=>intro d hd;cases hd
    | cons tk lx hk _ _ ih=>
     intro d hd;rcases ku hd with rfl|hd
     ·exact⟨_,tk,lx,hk⟩
     ·exact ih d hd
   obtain⟨x,t,lx,hk⟩:=key hr d hd;rw[hk,jZ];have l58:lO.length=58:=⋯;have hmem:nm x∈lO:=by unfold nm;rw[gw,f9 (by lia)];exact j9 _
   have:=hn _ hmem
   simpa using this
  rw[this];rfl
theorem call_meth{o:Expr}{name:Str}{apos pos:Pos}{es:List Expr}{env:Env}{A:Around}{E:VS}{Q:VS}(hb:fG o=false)(hs:es.any isStar=false)(hlen:es.length<20)(hline:(apos.endLine==pos.line)=true)
  (h:wpAny (MM wd) A (eval o env) (λov aF=>∀ pl,wpAny (MM wd) A (getMethod ov name pl) (λfx cD=>wpAny (MM wd) A (callWith pos fx.1 fx.2 (backTo pos (starEach es env)) []) Q E cD) E aF) E s):
  wpAny (MM wd) A (eval (.Call (.Attribute o name apos) es [] pos) env) Q E s:=by
 rw[arm_eval_Call,tX hb];refine af (ak h (λov aF h₁=>?_) λq q e=>e);refine af (b9 ?_)
 have hform:methodCallForm (es.length+([]:List Keyword).length) (backTo pos (starEach es env)) (backToKw pos (keywordEach [] env))=true:=by
  unfold methodCallForm;rw[iU hs];have e1:(es.map λe=>((false,eval e env):Bool × Sem Va)).all (λx=>!x.1)=true:=by rw[List.all_map];simp [Function.comp]
  have e2:(backToKw pos (keywordEach [] env))=[]:=rfl;rw[e1,e2];simp only[j3,Nat.add_zero,List.all_nil,List.isEmpty_nil,if_true,Bool.and_self,Bool.true_and];exact au (by lia)
 have hpos:methodCallPos true o env apos pos=pure pos:=by unfold methodCallPos;simp [hline]
 unfold methodCall;rw[hform];refine af (ay ?_);unfold calleeOf;simp only[if_true];refine ak (h₁ _) (λfx cD bA=>?_) λq q e=>e;exact af (wpAny_of_eq hpos bA)
theorem wo{C f:Ad}{pl:Sem Bool}{A:Around}{E:VS}{Q':Va × List Va->Sh->Prop}(S:St c l P s)(O:bM c)(M:DZ K C f)
  (h:∀ s',St c l P s'->Q' (.ref f,[]) s'):wpAny (MM wd) A (getMethod (.ref C) "__init__" pl) Q' E s:=by
 obtain⟨m,G,D,S'⟩:=S;have S:St c l P s:=⟨m,G,D,S'⟩
 exact method_of_cls (S'.fr O) O.X M.ga (cls_val (S'.fr O) O.X M.ty M.rd M.fc rfl (h _ (S.toks _)))
end
end
section
variable{X:XP}{n:Nat}
theorem DS{op:CmpOp}{p:Prim}{a b:Va}(hp:C9 op=some p)(S:St c l P s)(O:bM c)(R:bP n c.A)(h:bD p [ab a,ab b] P Q):wpAny (MM wd) c.A (compareOp op a b) (Ok c l Q) E s:=by
 cases op<;>cases hp
 ·exact Rv S h
 ·exact RA S h (Cv R)
 ·exact Rz S h
 ·exact Rw S h
 ·exact Ry S h
 ·exact IV S h
 ·exact Rx S O h
 ·exact IX S O h
theorem LW{op:Operator}{p:Prim}{a b:Va}(hp:binOp op=some p)(S:St c l P s)(h:bD p [ab a,ab b] P Q):wpAny (MM wd) c.A (binaryOp op a b) (Ok c l Q) E s:=by
 cases op<;>cases hp
 ·exact IS S h
 ·exact O6 S h
 ·exact O5 S h
 ·exact O8 S h
 ·exact Lp S h
theorem vn{op:CmpOp}{e:Expr}(h:isSet e=false):behindInMarks op e=false:=by cases e<;>first|rfl|cases h
theorem tP{f:Nat}(H:dM f)(O:bM c)(R:bP n c.A)(S:St c l P s){a b:Expr}{p:Prim}{Q':VS}{op:Va->Va->Sem Va}
  (h:bE n (.prim p (.cons (aC K f c.env.scope.names a) (.cons (aC K f c.env.scope.names b) .nil))) l P X Q)
  (k:∀ va vb P' s',St c l P' s'->bD p [ab va,ab vb] P' Q->wpAny (MM wd) c.A (op va vb) Q' (Exc c X) s'):
  wpAny (MM wd) c.A (eval a c.env) (λva aF=>wpAny (MM wd) c.A (eval b c.env) (λvb cD=>wpAny (MM wd) c.A (op va vb) Q' (Exc c X) cD) (Exc c X) aF) (Exc c X) s:=by refine ak (H a c l P s X _ n O R S h) (λva aF h₁=>?_) λq q x=>x;obtain⟨aP,aH,h₁⟩:=h₁;refine ak (H b c l aP aF X _ n O R aH h₁) (λvb cD bA=>?_) λq q x=>x;obtain⟨gT,bU,bA⟩:=bA;exact k va vb gT cD bU bA
theorem JQ{g:Expr->T}{a:T}{ops:List CmpOp}{bs:List Expr}(h:bE n (yq g a ops bs) l P X Q):∃ op b p,ops=[op]/\bs=[b]/\C9 op=some p/\isSet b=false/\bE n (.prim p (.cons a (.cons (g b) .nil))) l P X Q:=by
 match ops,bs,h with
 | [],_,h=>exact ck h
 | _::_::_,_,h=>exact ck h
 | [_],[],h=>exact ck h
 | [_],_::_::_,h=>exact ck h
 | [op],[b],h=>
  unfold yq at h;dsimp only at h;cases hp:C9 op with
  | none=>rw[hp] at h;exact ck h
  | some p=>
   rw[hp] at h;dsimp only at h;cases hb:isSet b with
   | true=>rw[hb] at h;exact ck h
   | false=>rw[hb] at h;exact⟨op,b,p,rfl,rfl,hp,hb,h⟩
set_option tactic.hygienic true in
theorem JR{op:BoolOp}{ts:List T}(h:bE n (G5 op ts) l P X Q):(∃ a b,ts=[a,b])\/∃ a b d,ts=[a,b,d]:=by
 match ts with
 | [a,b]=>exact .inl ⟨a,b,rfl⟩
 | [a,b,d]=>exact .inr ⟨a,b,d,rfl⟩
 | []=>cases op<;>exact ck h
 | [_]=>cases op<;>exact ck h
 | _::_::_::_::_=>cases op<;>exact ck h
theorem map_two{g:Expr->T}{es:List Expr}{a b:T}(h:es.map g=[a,b]):∃ x y,es=[x,y]:=by
 match es,h with
 | [x,y],_=>exact⟨x,y,rfl⟩
 | [],h=>simp at h
 | [_],h=>simp at h
 | _::_::_::_,h=>simp at h
theorem xM{g:Expr->T}{es:List Expr}{a b d:T}(h:es.map g=[a,b,d]):∃ x y z,es=[x,y,z]:=by
 match es,h with
 | [x,y,z],_=>exact⟨x,y,z,rfl⟩
 | [],h=>simp at h
 | [_],h=>simp at h
 | [_,_],h=>simp at h
 | _::_::_::_::_,h=>simp at h
theorem lV{a:Expr}{r:List Expr}{pos:Pos}{W:Sem Va}{T1 T F:PH->Prop}(h:wpAny (MM wd) c.A (isTrue a c.env (eval a c.env)) (Tr c l T1 F) (Exc c X) s)
  (k:∀ aP aF,St c l aP aF->T1 aP->wpAny (MM wd) c.A (isTrue (.BoolOp .And r pos) c.env W) (Tr c l T F) (Exc c X) aF):wpAny (MM wd) c.A (isTrue (.BoolOp .And (a::r) pos) c.env W) (Tr c l T F) (Exc c X) s:=isTrue_and (nJ h λr aP aF aH h₁=>by
 cases r
 ·exact⟨aP,aH,h₁⟩
 ·exact k aP aF aH h₁)
theorem qm{a:Expr}{r:List Expr}{pos:Pos}{W:Sem Va}{F1 T F:PH->Prop}(h:wpAny (MM wd) c.A (isTrue a c.env (eval a c.env)) (Tr c l T F1) (Exc c X) s)
  (k:∀ aP aF,St c l aP aF->F1 aP->wpAny (MM wd) c.A (isTrue (.BoolOp .Or r pos) c.env W) (Tr c l T F) (Exc c X) aF):wpAny (MM wd) c.A (isTrue (.BoolOp .Or (a::r) pos) c.env W) (Tr c l T F) (Exc c X) s:=isTrue_or (nJ h λr aP aF aH h₁=>by
 cases r
 ·exact k aP aF aH h₁
 ·exact⟨aP,aH,h₁⟩)
set_option tactic.hygienic true in
theorem Fy{f:Nat}(H:dM (f+1))(H0:dM f)(HT:sd f):sd (f+1):=by
 intro e c l P s X T F n O R S h
 have plain:(isTrue e c.env (eval e c.env)=(do let v<-eval e c.env;standAt e.pos;holding [v] (truthy v)))->wpAny (MM wd) c.A (isTrue e c.env (eval e c.env)) (Tr c l T F) (Exc c X) s:=λhe=>by
  refine isTrue_plain (bG (H e c l P s X _ n O R S h) λv aP aF aH h₁=>?_) he;rcases yd h₁ with⟨rfl,q⟩|⟨rfl,q⟩
  ·exact bw ⟨aP,aH,q⟩
  ·exact bw ⟨aP,aH,q⟩
 cases e<;>try exact plain rfl
 ·
  rename_i op vs pos
  have key:∀(a b:Expr),vs=[a,b]\/(∃ d,vs=[a,b,d])->wpAny (MM wd) c.A (isTrue (.BoolOp op vs pos) c.env (eval (.BoolOp op vs pos) c.env)) (Tr c l T F) (Exc c X) s:=λa b q=>by
   rcases q with rfl|⟨d,rfl⟩
   ·cases op
    ·exact lV (HT a c l P s X (λP=>bE n (aC K f c.env.scope.names b) l P X λv P=>aV v (T P) (F P)) F n O R S h) λaP aF aH h₁=>lV (HT b c l aP aF X T F n O R aH h₁) λgT cD bU bA=>isTrue_and_nil ⟨gT,bU,bA⟩
    ·exact qm (HT a c l P s X T (λP=>bE n (aC K f c.env.scope.names b) l P X λv P=>aV v (T P) (F P)) n O R S h) λaP aF aH h₁=>qm (HT b c l aP aF X T F n O R aH h₁) λgT cD bU bA=>isTrue_or_nil ⟨gT,bU,bA⟩
   ·cases op
    ·exact lV (HT a c l P s X (λP=>bE n (.and (aC K f c.env.scope.names b) (aC K f c.env.scope.names d)) l P X λv P=>aV v (T P) (F P)) F n O R S h) λaP aF aH h₁=>lV (HT b c l aP aF X (λP=>bE n (aC K f c.env.scope.names d) l P X λv P=>aV v (T P) (F P)) F n O R aH h₁) λgT cD bU bA=>lV (HT d c l gT cD X T F n O R bU bA) λqF jC dS bY=>isTrue_and_nil ⟨qF,dS,bY⟩
    ·exact qm (HT a c l P s X T (λP=>bE n (.or (aC K f c.env.scope.names b) (aC K f c.env.scope.names d)) l P X λv P=>aV v (T P) (F P)) n O R S h) λaP aF aH h₁=>qm (HT b c l aP aF X T (λP=>bE n (aC K f c.env.scope.names d) l P X λv P=>aV v (T P) (F P)) n O R aH h₁) λgT cD bU bA=>qm (HT d c l gT cD X T F n O R bU bA) λqF jC dS bY=>isTrue_or_nil ⟨qF,dS,bY⟩
  rcases JR h with⟨a,b,e⟩|⟨a,b,d,e⟩
  ·obtain⟨x,y,e⟩:=map_two e
   exact key x y (.inl e)
  ·obtain⟨x,y,z,e⟩:=xM e
   exact key x y (.inr ⟨z,e⟩)
 ·
  rename_i op a pos;cases op<;>first|exact ck h|skip
  refine isTrue_not (nJ (HT a c l P s X F T n O R S h) λr aP aF aH h₁=>?_);cases r<;>exact⟨aP,aH,h₁⟩
 ·
  rename_i t a b pos;refine isTrue_IfExp (nJ (HT t c l P s X (λP=>bE n (aC K f c.env.scope.names a) l P X λv P=>aV v (T P) (F P)) (λP=>bE n (aC K f c.env.scope.names b) l P X λv P=>aV v (T P) (F P)) n O R S h) λr aP aF aH h₁=>?_);cases r
  ·exact HT b c l aP aF X T F n O R aH h₁
  ·exact HT a c l aP aF X T F n O R aH h₁
 ·
  rename_i a ops bs pos;obtain⟨op,b,p,rfl,rfl,hp,hb,h⟩:=JQ h;refine wpAny_isTrue_Compare1 (tP H0 O R S h λva vb P' s' S' h'=>bG (DS hp S' O R h') λv qF jC dS bY=>?_) (vn hb);rcases yd bY with⟨rfl,q⟩|⟨rfl,q⟩
  ·exact bw ⟨qF,dS,q⟩
  ·exact bw ⟨qF,dS,q⟩
end
section
variable{X:XP}{n:Nat}
theorem sS{o:Expr}{x:Str}{pos:Pos}{env:Env}(h:fG o=false):eval (.Attribute o x pos) env=(do
   let ov<-eval o env
   standAt pos.atName
   let r<-holding [ov] (getAttr ov x true)
   letTemporaryGo o ov r
   pure r):=by
 have:eval (.Attribute o x pos) env=(do
   let ov<-attributeBase o x env (eval o env)
   standAt pos.atName
   let r<-holding [ov] (getAttr ov x true)
   letTemporaryGo o ov r
   pure r):=rfl
 rw[this,tX h]
theorem qi{x:Str}{k:Nat}(h:lO.findIdx? (·==x)=some k):x=nm k:=by
 obtain⟨hi,h1,_⟩:=List.findIdx?_eq_some_iff_getElem.mp h;unfold nm;rw[gw,f9 hi];have:lO[k]=x:=by simpa using h1
 exact this.symm
theorem B6{x:Nat}(h:cS x=true):x<58:=by unfold cS at h;simp only[j4,az] at h;lia
set_option tactic.hygienic true in
theorem mL{A:Around}{a:Va}{k:Nat}{x:Str}(I:pA K)(S:St c l P s)(O:bM c)(hx:x=nm k)(h:match ab a with|.ref a=>iB a k P Q|_=>False):wpAny (MM wd) A (getAttr a x true) (Ok c l Q) E s:=by
 cases a<;>first|exact ck h|skip
 rename_i a;replace h:iB a k P Q:=h;unfold iB at h;cases hP:P a with
 | none=>rw[hP] at h;exact ck h
 | some o=>
 rw[hP] at h
 have sub:∀{fs:List (Nat × Va)},(match eF k fs with|some v=>handedIn v=true/\Q v P|none=>False)->∃ v,eF k fs=some v/\handedIn v=true/\Q v P:=λ{fs} h=>by
  cases e:eF k fs with
  | none=>rw[e] at h;exact ck h
  | some v=>rw[e] at h;exact⟨v,rfl,h⟩
 cases o<;>first|exact ck h|skip
 ·obtain⟨v,hv,h3,h4⟩:=sub h.2
  exact Lo S O hP (I.fld _ _ h.1) hx hv h3 h4
 ·obtain⟨v,hv,h3,h4⟩:=sub h.2
  obtain⟨⟨rfl,h1⟩,h2⟩:=h;exact AS I.ex.exc S O hP h1 (B6 h1) hx hv h3 h4
theorem FT{slice:Expr}(h:isSlice slice=false):∀ o i,subscripted slice false o i=operate [o,i] (getItem o i):=by intro o i;cases slice<;>first|rfl|cases h
theorem sQ{v:Va}{x:String}(h:ab v=.type x):v=.type x:=Value.type.elim (motive:=λv=>ab v=.type x->v=.type x) v (BD h) (λ_ h=>h) h
theorem dI{d:Ad}{name:Str}{id:String}{pl:Sem Bool}{A:Around}{Q':Va × List Va->Sh->Prop}{ob:Obj}{kvs:List (Str × Va)}(slot:Slot "dict" name id)(hty:typeOf (.builtin id)=pure (.type "method_descriptor"))(g:s.heap.get? d=some ob)(hd:ob.IsDictOf (strKind pw wd) kvs)
  (h:Q' (.builtin id,[.ref d]) s):wpAny (MM wd) A (getMethod (.ref d) name pl) Q' E s:=by have hD:=Heap.dictOf_iff.mpr ⟨ob,g,hd⟩;exact getMethod_builtin hD.typeIs PySem.F.plainAttrs_dict slot hty hD.mapOf.noDict h
theorem iJ{d:Ad}{name:Str}{id:String}{pl:Sem Bool}{A:Around}{Q':Va × List Va->Sh->Prop}{vs:List Va}{n:Nat}(slot:Slot "list" name id)(hty:typeOf (.builtin id)=pure (.type "method_descriptor"))(g:s.heap.get? d=some (W.listOf vs.toArray n))
  (h:Q' (.builtin id,[.ref d]) s):wpAny (MM wd) A (getMethod (.ref d) name pl) Q' E s:=getMethod_builtin (bK g).typeIs PySem.F.plainAttrs_list slot hty (λb e=>by obtain rfl:=Value.ref.inj e;exact⟨_,g,rfl⟩) h
theorem rA{x:Str}{t:Tok}{pl:Sem Bool}{A:Around}{Q':Va × List Va->Sh->Prop}(h:Q' (.builtin "str.upper",[.str x t]) s):wpAny (MM wd) A (getMethod (.str x t) "upper" pl) Q' E s:=PySem.GM.upper h
theorem rz{x:Str}{t:Tok}{pl:Sem Bool}{A:Around}{Q':Va × List Va->Sh->Prop}(h:Q' (.builtin "str.split",[.str x t]) s):wpAny (MM wd) A (getMethod (.str x t) "split" pl) Q' E s:=PySem.GM.split h
theorem IP{vs:List Va}{F:Va->Prop}(h:Cm (vs.map ab) F):∃ a,vs=[a]/\F (ab a):=by obtain⟨a,_,rfl,h⟩:=vq h;obtain⟨rfl,h⟩:=DH h;exact⟨a,rfl,h⟩
theorem IQ{vs:List Va}{F:Va->Va->Prop}{G:Prop}(h:tL (vs.map ab) F)(k:∀ a b,vs=[a,b]->F (ab a) (ab b)->G):G:=by obtain⟨a,_,rfl,h⟩:=vq h;obtain⟨b,rfl,h⟩:=IP h;exact k a b rfl h
theorem OZ{vs:List Va}{a:Va}{F:Va->Prop}{G:Prop}(h:Cm (a::vs.map ab) F)(k:vs=[]->F a->G):G:=have h:=DH h;k h.1 h.2
theorem vo{vs:List Va}{a:Va}{F:Va->Va->Prop}{G:Prop}(h:tL (a::vs.map ab) F)(k:∀ v,vs=[v]->F a (ab v)->G):G:=(IP (F:=F a) h).elim λv h=>k v h.1 h.2
theorem O0{vs:List Va}{a:Va}{F:Va->Va->Va->Prop}{G:Prop}(h:Uz (a::vs.map ab) F)(k:∀ v u,vs=[v,u]->F a (ab v) (ab u)->G):G:=IQ (F:=F a) h k
theorem Pj{f:Nat}(H:dM f)(O:bM c)(R:bP n c.A)(S:St c l P s){o:Expr}{x:Str}{apos pos:Pos}{es:List Expr}{p:Prim}(hb:fG o=false)(hs:es.any isStar=false)(hlen:es.length<20)(hline:(apos.endLine==pos.line)=true)(hp:C1 x es.length=some p)
  (h:bE n (.bm p (aC K f c.env.scope.names o) (fW (aC K f c.env.scope.names) es)) l P X Q):kH c l X Q (.Call (.Attribute o x apos) es [] pos) s:=by
 refine call_meth hb hs hlen hline (bG (H o c l P s X _ n O R S h) λov aP aF aH h₁=>?_);obtain⟨hk,h₁⟩:=h₁;intro pl;have go:∀{id:String},(∀ vs P' s',St c l P' s'->bD p (ab ov::vs.map ab) P' Q->wpAny (MM wd) c.A (call (.builtin id) (ov::vs)) (Ok c l Q) (Exc c X) s')->wpAny (MM wd) c.A (callWith pos (.builtin id) [ov] (backTo pos (starEach es c.env)) []) (Ok c l Q) (Exc c X) aF:=λ{id} k=>bZ (G:=λj=>True) hs p8 (ak (fL H O R hs aH (dR h₁).2) (λvs cD ⟨gT,bU,bA⟩=>⟨trivial,k vs gT cD bU bA⟩) λj j x=>x);have hb:=Qm hp;clear hp h h₁ hlen hline hs;generalize es.length=k at hb;cases hb with
 | qR=>obtain⟨d,rfl,hk⟩:=cC hk;obtain⟨_,_,q,_⟩:=iM hk;obtain⟨_,ob,kvs',g,hd,_⟩:=iA aH O q;exact dI j7 PySem.F.type_dict_get g hd (go λvs P' s' S' h'=>vo h' λv e h'=>e▸Lq S' O h')
 | uI=>obtain⟨d,rfl,hk⟩:=cC hk;obtain⟨_,_,q,_⟩:=iM (hk (yU aH O));obtain⟨ob,kvs',g,hd,_⟩:=qp aH O q;exact dI j7 PySem.F.type_dict_get g hd (go λvs P' s' S' h'=>O0 h' λv u e h'=>e▸Lr S' O h')
 | pop=>obtain⟨d,rfl,hk⟩:=cC hk;obtain⟨_,_,q,_⟩:=iM hk;obtain⟨_,ob,kvs',g,hd,_⟩:=iA aH O q;exact dI PySem.F.slot_dict_pop PySem.F.type_dict_pop g hd (go λvs P' s' S' h'=>vo h' λv e h'=>e▸O7 S' O h')
 | append=>obtain⟨d,rfl,hk⟩:=cC hk;obtain⟨_,_,q,_⟩:=fB hk;obtain⟨vs',n',g,_⟩:=eT aH q;exact iJ PySem.F.slot_list_append PySem.F.type_list_append g (go λvs P' s' S' h'=>vo h' λv e h'=>e▸E3 S' h')
 | extend=>obtain⟨d,rfl,hk⟩:=cC hk;obtain⟨_,_,q,_⟩:=fB hk;obtain⟨vs',n',g,_⟩:=eT aH q;exact iJ PySem.F.slot_list_extend PySem.F.type_list_extend g (go λvs P' s' S' h'=>vo h' λv e h'=>e▸E5 S' h')
 | upper=>obtain⟨x,t,rfl,_⟩:=iN hk;exact rA (go λvs P' s' S' h'=>OZ h' λe h'=>e▸I4 S' h')
 | split=>obtain⟨x,t,rfl,_⟩:=iN hk;exact rz (go λvs P' s' S' h'=>vo h' λv e h'=>e▸IY S' h')
end
section
variable{X:XP}{n:Nat}
theorem Qf{g:Expr->T}:∀{es:List Expr},(es.map g).foldr TL.cons TL.nil=mj g es:=by
 intro rr;induction rr with
 | nil=>exact rfl
 | cons e r ih=>exact aj (TL.cons (g e)) ih
theorem Ej{g:Str}{gp pos:Pos}{es:List Expr}{v:Va}(S:St c l P s)(O:bM c)(hv:dP K c.env.scope.names g=.con v)
  (h:∀ f s',ab f=v->St c l P s'->wpAny (MM wd) c.A (callWith pos f [] (backTo pos (starEach es c.env)) []) (Ok c l Q) (Exc c X) s'):kH c l X Q (.Call (.Name g gp) es [] pos) s:=by refine Call_ (bG (mO (n:=0) (X:=X) (Q:=λu P'=>u=v/\P'=P) S O (by rw[hv];exact⟨rfl,rfl⟩)) λf aP aF aH h₁=>?_);obtain⟨e,rfl⟩:=h₁;exact h f aF e aH
theorem Lm{f:Nat}(H:dM f)(O:bM c)(R:bP n c.A)(S:St c l P s){a:Expr}{fv:Va}{pos:Pos}{R':Va->PH->Prop}
  (hk:∀ h,True->∃ k,(k=Keeper.frame\/k=Keeper.machine\/k=Keeper.boundFrame)/\Looks (MM wd) h (keeperOf fv) k) (hs:[a].any isStar=false)
  (h:bE n (aC K f c.env.scope.names a) l P X R') (k:∀ v P' s',St c l P' s'->R' (ab v) P'->wpAny (MM wd) c.A (call fv [v]) (Ok c l Q) (Exc c X) s'):
  wpAny (MM wd) c.A (callWith pos fv [] (backTo pos (starEach [a] c.env)) []) (Ok c l Q) (Exc c X) s:=by refine bZ (G:=λq=>True) hs hk (g8 (bG (H a c l P s X _ n O R S h) λv aP aF aH h₁=>?_));exact g7 ⟨trivial,k v aP aF aH h₁⟩
def pG(f:Nat):Prop:=∀(e o:Expr) (fv:Va) (pos:Pos) (c:Fx) (l:Lv) (P:PH) (s:Sh) (X:XP) (Q:VQ) (n:Nat),bM c->bP n c.A->St c l P s->fv=.type "dict"->uQ e=some o->yG "list" (dP K c.env.scope.names "list")=true->bE n (.prim .itemsdict (.cons (aC K f c.env.scope.names o) .nil)) l P X Q->wpAny (MM wd) c.A (callWith pos fv [] (backTo pos (starEach [e] c.env)) []) (Ok c l Q) (Exc c X) s
theorem LY{f:Nat}(H:dM f)(I:pA K)(O:bM c)(R:bP n c.A)(S:St c l P s){a:Ad}{es:List Expr}{pos:Pos}(hs:es.any isStar=false)
  (h:bE n (if uP K a then .call a (mj (aC K f c.env.scope.names) es) else if (qg.lookup (a,99)).isSome then .make a (mj (aC K f c.env.scope.names) es) else .bad) l P X Q):
  wpAny (MM wd) c.A (callWith pos (.ref a) [] (backTo pos (starEach es c.env)) []) (Ok c l Q) (Exc c X) s:=by
 split at h
 ·rename_i hf
  refine bZ (G:=λh=>K.In h) hs (AA hf) (gH (fL H O R hs S h) λvs aP aF aH h₁=>?_);exact⟨aH.Cb O,ql aH O R h₁⟩
 ·split at h
  ·rename_i hm
   obtain⟨g,hm⟩:=cz hm;have M:=I.Ur a g hm;refine bZ (G:=λh=>K.In h) hs (λh XK=>keeps_K M.kc h XK) (gH (fL H O R hs S h) λvs aP aF aH h₁=>?_);refine⟨aH.Cb O,?_⟩;have hm':bO a 99=some g:=hm;unfold MY at h₁;rw[hm'] at h₁;cases n with
   | zero=>exact ck h₁
   | succ k=>exact Ly M aH O R h₁
  ·exact ck h
theorem HS{v:Va}{p:Prim}(h:B1 v p):∀ h,True->∃ k,(k=Keeper.frame\/k=Keeper.machine\/k=Keeper.boundFrame)/\Looks (MM wd) h (keeperOf v) k:=by cases h<;>first|exact tw|exact p8
theorem Rt{v a:Va}{p:Prim}{A:Around}(b:B1 v p)(S:St c l P s)(O:bM c)(hh:A.handled=none)(h:bD p [ab a] P Q):wpAny (MM wd) A (call v [a]) (Ok c l Q) E s:=by
 cases b with
 | list=>exact E7 S O h hh
 | dict=>exact E4 S O h
 | int=>exact O3 S h
 | len=>exact O4 S O h
 | abs=>exact O2 S h
 | sum=>exact Pa S h hh
theorem Ru{v a:Va}{p:Prim}{A:Around}(b:B2 v p)(I:pA K)(S:St c l P s)(O:bM c)(h:bD p [ab a] P Q):wpAny (MM wd) A (call (.builtin "isinstance") [a,v]) (Ok c l Q) E s:=by
 cases b with
 | inst C=>exact E6 I.ins S O h
 | num t ht=>exact IW I.ins S O ht h
theorem Cx{f:Nat}(H:dM f)(I:pA K)(O:bM c)(R:bP n c.A)(S:St c l P s){fv:Va}{es:List Expr}{pos:Pos}(hs:es.any isStar=false)
  (h:bE n (GB (ab fv) (es.map (aC K f c.env.scope.names))) l P X Q):
  wpAny (MM wd) c.A (callWith pos fv [] (backTo pos (starEach es c.env)) []) (Ok c l Q) (Exc c X) s:=by
 match es,h with
 | [],hh=>exact ck hh
 | [e],hh=>
  replace hh:bE n (match b1 (ab fv) with
   | some p=>.prim p (.cons (aC K f c.env.scope.names e) .nil)
   | none=>.bad) l P X Q:=hh
  cases hb:b1 (ab fv) with
  | none=>rw[hb] at hh;exact ck hh
  | some p=>rw[hb] at hh;exact Lm H O R S (HS (Ms hb)) hs hh λv P' s' S' h'=>Rt (Ms hb) S' O O.hh h'
 | [e,d],hh=>
  by_cases hi:QX (ab fv)=true
  ·replace hh:bE n (if QX (ab fv)=true then(match (Hi (aC K f c.env.scope.names d)).bind b2 with
    | some p=>.prim p (.cons (aC K f c.env.scope.names e) .nil)
    | none=>.bad) else .bad) l P X Q:=hh
   rw[ai hi] at hh;obtain rfl:=Of hi;cases hb:(Hi (aC K f c.env.scope.names d)).bind b2 with
   | none=>rw[hb] at hh;exact ck hh
   | some p=>rw[hb] at hh;obtain⟨u,h1,h2⟩:=dg hb;refine bZ (G:=λq=>True) hs p8 (g8 (bG (H e c l P s X _ n O R S hh) λv aP aF aH h₁=>?_));refine g8 (bG (H d c l aP aF X (λv2 P'=>v2=u/\P'=aP) n O R aH (by rw[Kv h1];exact⟨rfl,rfl⟩)) λv2 gT cD bU bA=>?_);obtain⟨e2,rfl⟩:=bA;exact g7 ⟨trivial,Ru (Ql (e2.symm▸h2)) I bU O h₁⟩
  ·replace hh:bE n (if QX (ab fv)=true then(match (Hi (aC K f c.env.scope.names d)).bind b2 with
    | some p=>.prim p (.cons (aC K f c.env.scope.names e) .nil)
    | none=>.bad) else .bad) l P X Q:=hh
   rw[aa hi] at hh;exact ck hh
 | _::_::_::_,hh=>exact ck hh
set_option tactic.hygienic true in
theorem Fz{f:Nat}(H:dM f)(I:pA K)(O:bM c)(R:bP n c.A)(S:St c l P s){v fv:Va}{es:List Expr}{pos:Pos}(hs:es.any isStar=false)(hf:ab fv=v)
  (h:bE n (Mt K v (es.map (aC K f c.env.scope.names))) l P X Q):
  wpAny (MM wd) c.A (callWith pos fv [] (backTo pos (starEach es c.env)) []) (Ok c l Q) (Exc c X) s:=by
 subst hf;cases fv<;>first|exact Cx H I O R S hs h|skip
 rename_i a;replace h:bE n (if uP K a then .call a ((es.map (aC K f c.env.scope.names)).foldr .cons .nil) else if (qg.lookup (a,99)).isSome then .make a ((es.map (aC K f c.env.scope.names)).foldr .cons .nil) else .bad) l P X Q:=h;rw[Qf] at h;exact LY H I O R S hs h
end
section
section
variable{X:XP}{n:Nat}
structure CS(f:Nat):Prop where
 items:pG f
 Tj:∀ k o cs vs,HX k o cs vs->∃ fd,o.data=.func fd
 lc:∀(elt it:Expr) (x:Str) (px pos:Pos) (ifs:List Expr) (sc:Scope) (k:Nat) (test:T) (c:Fx) (l:Lv) (P:PH) (s:Sh) (X:XP) (Q:VQ) (n:Nat),bM c->bP n c.A->St c l P s->isSet it=false->sc.names.findIdx? (λq=>q.1==x)=some k->((ifs=[]/\test=.con (.bool true))\/∃ t,ifs=[t]/\test=aC K f (iP c.env.scope.names sc.names) t)->AG c.env.scope.names sc k=true->bE n (.lc (sc.names.map (mh c.env.scope.names)) k (aC K f c.env.scope.names it) (aC K f (iP c.env.scope.names sc.names) elt) test) l P X Q->kH c l X Q (.ListComp elt [⟨.Name x px,it,ifs,0⟩] sc pos) s
 lam:∀(body:Expr) (sc:Scope) (pos:Pos) (c:Fx) (l:Lv) (P:PH) (s:Sh) (X:XP) (Q:VQ) (n:Nat),bM c->bP n c.A->St c l P s->qU c.env.scope.names sc pos=true->bE n (.lam (pos.line*1000+pos.col) ((sc.names.takeWhile λq=>q.2==.free).map λq=>(c.env.scope.names.findIdx? (λp=>p.1==q.1)).getD 0) (aC K f sc.names body)) l P X Q->kH c l X Q (.Lambda ⟨[],[],none,[],[],none,[]⟩ body sc pos) s
 Am:∀(ks:List (Op Expr)) (vs:List Expr) (pos:Pos) (ns:List Str) (c:Fx) (l:Lv) (P:PH) (s:Sh) (X:XP) (Q:VQ) (n:Nat),bM c->bP n c.A->St c l P s->jI ks=some ns->ns.length=vs.length->ks.length=vs.length->bE n (.Am ns (fW (aC K f c.env.scope.names) vs)) l P X Q->kH c l X Q (.Dict ks vs pos) s
theorem mP{v:Va}{A:Around}{Q':Bool->Sh->Prop}{T F:Prop}(h:aV (ab v) T F)(ht:v=.bool true->T->Q' true s)(hf:v=.bool false->F->Q' false s):wpAny (MM wd) A (truthy v) Q' E s:=by
 rcases yd h with⟨rfl,q⟩|⟨rfl,q⟩
 ·exact bw (ht rfl q)
 ·exact bw (hf rfl q)
theorem Aw{e:Expr}(h:HR e=true):∃ k p,e=.Constant (.int 1) k p:=aN (eq_of_beq h) λ_ h e=>(uD h).elim λu h=>h.elim λp h=>⟨u,p,h.trans (aj (λk=>Expr.Constant k u p) (Kc e))⟩
theorem Me{u:UnaryOp}(h:Sb u=true):u=.USub:=by cases u<;>first|exact gP h|rfl
theorem ED{e:Expr}(h:HQ e=true):∃ k p p',e=.UnaryOp .USub (.Constant (.int 1) k p) p':=dJ (xC h) λq h e=>(Mh h).elim λp h=>
 have e:=dm e
 (Aw e.2).elim λu w=>w.elim λv w=>⟨u,v,p,h.trans (by rw[Me e.1,w])⟩
theorem xY{f:Nat}(H:dM f)(O:bM c)(R:bP n c.A)(S:St c l P s){o i:Expr}{pos:Pos}{p:Prim}{k:Op Expr}(hi:zl i=some (p,k))
  (h:bE n (match k with|none=>.prim p (.cons (aC K f c.env.scope.names o) .nil)|some k=>.prim p (.cons (aC K f c.env.scope.names o) (.cons (aC K f c.env.scope.names k) .nil))) l P X Q):kH c l X Q (.Subscript o i pos) s:=by
 refine aN hi λq h1 hi=>?_;obtain⟨sp,rfl⟩:=Cw h1;rcases Option.or_eq_some_iff.mp hi with hi|⟨-,hi⟩
 ·have hi:=wu hi
  have ab:=dm hi.1;refine aN hi.2 λe h3 hi=>?_;have hi:=wu hi;obtain⟨rfl,rfl⟩:=jb (kr hi.2);obtain⟨k1,p1,p2,rfl⟩:=ED hi.1;rw[Option.isNone_iff_eq_none.mp ab.1,Option.isNone_iff_eq_none.mp ab.2,h3];refine Subscript_ (bG (H o c l P s X _ n O R S h) λv aP aF aH h₁=>?_);refine wpAny_Slice (aq (aq (UnaryOp_ (wpAny_Constant_int (PyProof.Rows.neg_int ?_)))));exact O9 (aH.toks _) h₁ (.int _ _) (λj j=>rfl)
 rcases Option.or_eq_some_iff.mp hi with hi|⟨-,hi⟩
 ·have hi:=wu hi
  have ab:=dm hi.1;refine dJ hi.2 λk' h3 hi=>?_;obtain⟨rfl,rfl⟩:=jb hi;rw[Option.isNone_iff_eq_none.mp ab.1,Option.isNone_iff_eq_none.mp ab.2,h3];refine Subscript_ (bG (H o c l P s X _ n O R S h) λv aP aF aH h₁=>?_);exact wpAny_Slice (aq (bG (H _ c l aP aF X _ n O R aH h₁) λkv gT cD bU bA=>aq (Lz bU O bA λj j=>rfl)))
 ·refine aN hi λe h3 hi=>?_
  have hi:=wu hi;obtain⟨rfl,rfl⟩:=jb (kr hi.2);have ab:=dm hi.1;have cd:=dm ab.1;obtain⟨k1,p1,rfl⟩:=Aw cd.1;rw[h3,Option.isNone_iff_eq_none.mp ab.2,Option.isNone_iff_eq_none.mp cd.2];refine Subscript_ (bG (H o c l P s X _ n O R S h) λv aP aF aH h₁=>?_);refine wpAny_Slice (wpAny_evalPart_some (wpAny_Constant_int (aq (aq ?_))));exact IU (aH.toks _) h₁ λj j=>rfl
set_option tactic.hygienic true in
theorem tu{s:String}{t:T}(h:yG s t=true):t=.con (.type s):=by
 cases t<;>first|cases h|skip
 rename_i v;cases v<;>first|cases h|skip
 rw[beq_iff_eq.mp h]
section
variable{f:Nat}(H:dM f)(O:bM c)(R:bP n c.A)(S:St c l P s)
include H O R S
theorem A9{a b:Expr}{pos:Pos}(h:bE n (.and (aC K f c.env.scope.names a) (aC K f c.env.scope.names b)) l P X Q):kH c l X Q (.BoolOp .And [a,b] pos) s:=by
 refine BoolOp_and (bG (H a c l P s X _ n O R S h) λv aP aF aH h₁=>?_);refine mP h₁ (λj q=>?_) λhv q=>?_
 ·exact BoolOp_one (H b c l aP aF X Q n O R aH q)
 ·subst hv;exact aH.ok q
theorem DT{a b:Expr}{pos:Pos}(h:bE n (.or (aC K f c.env.scope.names a) (aC K f c.env.scope.names b)) l P X Q):kH c l X Q (.BoolOp .Or [a,b] pos) s:=by
 refine BoolOp_or (bG (H a c l P s X _ n O R S h) λv aP aF aH h₁=>?_);refine mP h₁ (λhv q=>?_) λj q=>?_
 ·subst hv;exact aH.ok q
 ·exact BoolOp_one (H b c l aP aF X Q n O R aH q)
theorem Jp{op:BoolOp}{es:List Expr}{pos:Pos}(h:bE n (G5 op (es.map (aC K f c.env.scope.names))) l P X Q):kH c l X Q (.BoolOp op es pos) s:=by
 rcases JR h with⟨_,_,q⟩|⟨_,_,_,q⟩
 ·obtain⟨a,b,rfl⟩:=map_two q
  cases op
  ·exact A9 H O R S h
  ·exact DT H O R S h
 ·obtain⟨a,b,d,rfl⟩:=xM q
  cases op
  ·replace h:bE n (.and (aC K f c.env.scope.names a) (.and (aC K f c.env.scope.names b) (aC K f c.env.scope.names d))) l P X Q:=h
   refine BoolOp_and (bG (H a c l P s X _ n O R S h) λv aP aF aH h₁=>?_);refine mP h₁ (λj q=>?_) λhv q=>?_
   ·exact A9 (pos:=pos) H O R aH q
   ·subst hv;exact aH.ok q
  ·replace h:bE n (.or (aC K f c.env.scope.names a) (.or (aC K f c.env.scope.names b) (aC K f c.env.scope.names d))) l P X Q:=h
   refine BoolOp_or (bG (H a c l P s X _ n O R S h) λv aP aF aH h₁=>?_);refine mP h₁ (λhv q=>?_) λj q=>?_
   ·subst hv;exact aH.ok q
   ·exact DT (pos:=pos) H O R aH q
set_option tactic.hygienic true in
theorem Cy{v fv:Va}{as:List Expr}{o:Expr}{pos:Pos}(M:pG f)(hf:ab fv=v)(hm:pZ v as=some o)(hl:yG "list" (dP K c.env.scope.names "list")=true)
  (h:bE n (.prim .itemsdict (.cons (aC K f c.env.scope.names o) .nil)) l P X Q):wpAny (MM wd) c.A (callWith pos fv [] (backTo pos (starEach as c.env)) []) (Ok c l Q) (Exc c X) s:=by
 cases v<;>first|cases hm|skip
 rename_i t;unfold pZ at hm;dsimp only at hm;have hm:=wu hm;obtain rfl:=beq_iff_eq.mp hm.1
 match as,hm.2 with
 | [e],hm=>exact M e o fv pos c l P s X Q n O R S (sQ hf) hm hl h
 | [],hm=>exact bB hm
 | _::_::_,hm=>exact bB hm
omit H O R S in
theorem En{g:Expr->T}{es:List Expr}(h:fW g es=.nil):es=[]:=by
 cases es with
 | nil=>rfl
 | cons e r=>
  unfold fW at h;by_cases q:(e::r).any isStar=true
  ·rw[ai q] at h;cases h
  ·rw[aa q] at h;cases h
omit H O R S in
theorem EH{a:Ad}{o:Obj}{fd:FuncData}{M:Model}(hd:o.data=.func fd)(h:Heap)(e:h.get? a=some o):∃ k,(k=Keeper.frame\/k=Keeper.machine\/k=Keeper.boundFrame)/\Looks M h (keeperOf (.ref a)) k:=by refine⟨.frame,.inl rfl,λA Q E s k q=>?_⟩;unfold keeperOf;refine af (wpAny_load (k _ _ e) ?_);rw[hd];exact aq q
set_option tactic.hygienic true in
theorem Pn(I:pA K)(M:pG f)(ML:∀ k o cs vs,HX k o cs vs->∃ fd,o.data=.func fd){x:Str}{gp pos:Pos}{as:List Expr}(h:bE n (G8 K c.env.scope.names (aC K f c.env.scope.names) x as) l P X Q):kH c l X Q (.Call (.Name x gp) as [] pos) s:=by
 obtain⟨hs,h⟩:=DX h
 ·generalize hv:dP K c.env.scope.names x=t at h
  cases t<;>first|exact ck h|skip
  ·rename_i v
   refine Ej S O hv λfv s' hf S'=>?_;dsimp only at h;cases hm:pZ v as with
   | some o=>rw[hm] at h;dsimp only at h;exact Cy H O R S' M hf hm (vO h).1 (vO h).2
   | none=>rw[hm] at h;exact Fz H I O R S' hs hf h
  ·rename_i i
   obtain⟨_,h⟩:True/\bE n (.Ac (dP K c.env.scope.names x) (fW (aC K f c.env.scope.names) as)) l P X Q:=⟨trivial,by rw[hv];exact h⟩
   refine Call_ (bG (mO (n:=n) S O h) λfv aP aF aH h₁=>?_);cases fv<;>first|exact ck h₁|skip
   obtain⟨ha,h₁⟩:=h₁;rcases ha with ha|⟨ha,k,vs,hP⟩
   ·refine bZ (G:=λh=>K.In h) hs (AA (I.act _ ha)) (gH (fL H O R hs aH (dR h₁).2) λvs gT cD bU bA=>?_)
    exact⟨bU.Cb O,ql bU O R bA⟩
   ·obtain rfl:=En ha
    obtain⟨m,G,D,zO⟩:=id aH;obtain⟨o,cs,eo,hlo,_⟩:=(zO.sat.rel _ _ hP).2;obtain⟨fd,hd⟩:=ML _ _ _ _ hlo;exact bZ (G:=λh=>h.get? _=some o) hs (EH hd) (g7 ⟨eo,ql aH O R h₁⟩)
omit H O R S in
theorem HP(I:pA K){C g:Ad}(h:yC C=some g):DZ K C g:=by
 unfold yC at h;by_cases q:C=765
 ·rw[ai q] at h;obtain rfl:=kr h;exact q▸I.ex.Un
 ·rw[aa q] at h;exact(I.Ur C g h).cls
theorem FI(I:pA K){o:Expr}{apos pos:Pos}{as:List Expr}(h3:fG o=false)(h4:as.any isStar=false)(h1:as.length<20)(h2:(apos.endLine==pos.line)=true)(ho:aC K f c.env.scope.names o=.con (.type "ValueError"))(hl:as.length=2)
  (h:bE n (.prim .vinit (fW (aC K f c.env.scope.names) as)) l P X Q):kH c l X Q (.Call (.Attribute o "__init__" apos) as [] pos) s:=by refine call_meth h3 h4 h1 h2 (bG (H o c l P s X (λv P'=>v=.type "ValueError"/\P'=P) n O R S (by rw[ho];exact⟨rfl,rfl⟩)) λov aP aF aH h₁=>?_);obtain⟨e,rfl⟩:=h₁;have:=sQ e;subst this;intro pl;refine Gg (aH.Cb O) ?_;refine bZ (G:=λh=>K.In h) h4 (λh q=>p8 h trivial) (gH (fL H O R h4 (aH.toks _) (dR h).2) λvs qF jC dS bY=>?_);refine⟨dS.Cb O,IQ bY λa b e bY=>?_⟩;subst e;obtain⟨a,rfl,bY⟩:=cC bY;obtain⟨_,hP,rfl,hQ⟩:=Lk bY;exact E8 (I.ex.at_ (dS.Cb O)) dS hP hQ
set_option tactic.hygienic true in
theorem FA(I:pA K){o:Expr}{apos pos:Pos}{as:List Expr}(h3:fG o=false)(h4:as.any isStar=false)(h1:as.length<20)(h2:(apos.endLine==pos.line)=true)
  (h:bE n (match BU (aC K f c.env.scope.names o) with
   | some C=>(yC C).elim .bad λf'=>.call f' (fW (aC K f c.env.scope.names) as)
   | none=>if yG "ValueError" (aC K f c.env.scope.names o)&&as.length==2 then .prim .vinit (fW (aC K f c.env.scope.names) as) else .bad) l P X Q):kH c l X Q (.Call (.Attribute o "__init__" apos) as [] pos) s:=by
 cases hC:BU (aC K f c.env.scope.names o) with
 | none=>
  rw[hC] at h;dsimp only at h
  ·have⟨q,h⟩:=vO h
   have q:=dm q;exact FI H O R S I h3 h4 h1 h2 (tu q.1) (beq_iff_eq.mp q.2) h
 | some C=>
  rw[hC] at h;dsimp only at h
  have hC:aC K f c.env.scope.names o=.con (.ref C):=by
   generalize aC K f c.env.scope.names o=t at hC;cases t<;>first|cases hC|skip
   rename_i v;cases v<;>first|cases hC|skip
   rfl
  refine k8 h λg hg h=>?_
  ·have Mk:=HP I hg
   obtain⟨_,h⟩:=dR h;refine call_meth h3 h4 h1 h2 (bG (H o c l P s X (λv P'=>v=.ref C/\P'=P) n O R S (by rw[hC];exact⟨rfl,rfl⟩)) λov aP aF aH h₁=>?_);obtain⟨e,rfl⟩:=h₁;have:=tT e;subst this;intro pl;refine wo aH O Mk λcD bU=>?_;refine bZ (G:=λh=>K.In h) h4 (λh XK=>keeps_K Mk.kf h XK) (gH (fL H O R h4 bU h) λvs qF jC dS bY=>?_);exact⟨dS.Cb O,ql dS O R bY⟩
set_option tactic.hygienic true in
theorem Pk(I:pA K){o:Expr}{x:Str}{apos pos:Pos}{as:List Expr}(h:bE n (G7 (aC K f c.env.scope.names) o x apos pos as) l P X Q):kH c l X Q (.Call (.Attribute o x apos) as [] pos) s:=by
 obtain⟨hc,h⟩:=vO h
 ·simp only[e9,decide_eq_true_eq,i6] at hc
  obtain⟨⟨⟨h1,h2⟩,h3⟩,h4⟩:=hc;by_cases hx:(x==("__init__":Str))=true
  ·obtain rfl:=beq_iff_eq.mp hx
   exact FA H O R S I h3 h4 h1 h2 h
  ·rw[aa hx] at h
   cases hp:C1 x as.length with
   | some p=>rw[hp] at h;exact Pj H O R S h3 h4 h1 h2 hp h
   | none=>
    rw[hp] at h;refine k8 h λm hm h=>?_
    ·refine call_meth h3 h4 h1 h2 (bG (H o c l P s X _ n O R S h) λov aP aF aH h₁=>?_)
     intro pl;cases ov<;>first|exact ck h₁|skip
     rename_i a;obtain⟨C,fs,hP,h₁⟩:=J4 (F:=λC fs=>match bO C m with
       | some f'=>(match bL m with
        | some x=>eF x fs=none
        | none=>True)/\Gi n (fW (aC K f c.env.scope.names) as) l aP X λvs P=>Calls n f' (.ref a::vs) P X Q
       | none=>False) h₁
     cases hf':bO C m with
     | none=>rw[hf'] at h₁;exact ck h₁
     | some f'=>
     rw[hf'] at h₁;obtain⟨h5,h6⟩:=h₁;obtain⟨hi,e1,_⟩:=List.findIdx?_eq_some_iff_getElem.mp hm;have lm:gX.length=24:=⋯;have hne:m≠99:=by lia
     have Mm:=I.Vk C m f' hf' hne
     have en:gX.getD m ""=x:=by
      rw[gw,f9 hi]
      simpa using e1
     rw[en] at Mm;unfold bL at h5;rw[en] at h5;refine uJ aH O hP Mm h5 ?_;refine bZ (G:=λh=>K.In h) h4 (λh XK=>keeps_K Mm.kp h XK) (gH (fL H O R h4 aH (dR h6).2) λvs qF jC dS bY=>?_);exact⟨dS.Cb O,ql (args:=.ref a::vs) dS O R bY⟩
theorem Jq(M:CS f){ks:List (Op Expr)}{vs:List Expr}{pos:Pos}(h:bE n (MB (aC K f c.env.scope.names) ks vs) l P X Q):kH c l X Q (.Dict ks vs pos) s:=by
 cases ks with
 | nil=>
  cases vs with
  | nil=>exact IT S h
  | cons _ _=>exact ck h
 | cons k ks=>
  refine k8 h λns hn h=>?_
  ··have⟨hz,h⟩:=vO h
    have hz:=dm hz;exact M.Am _ _ _ ns c l P s X Q n O R S hn (beq_iff_eq.mp hz.1) (beq_iff_eq.mp hz.2) h
end
theorem H8{g:Expr->T}{ifs:List Expr}{t:T}(h:MW g ifs=some t):(ifs=[]/\t=.con (.bool true))\/∃ e,ifs=[e]/\t=g e:=by
 match ifs,h with
 | [],h=>obtain rfl:=kr h;exact .inl ⟨rfl,rfl⟩
 | [e],h=>obtain rfl:=kr h;exact .inr ⟨e,rfl,rfl⟩
 | _::_::_,h=>cases h
set_option tactic.hygienic true in
theorem xu{ns:NS}{g h:Expr->T}{elt:Expr}{gens:List Comprehension}{sc:Scope}(hw:bE n (Hf ns g h elt gens sc) l P X Q):∃ x px it ifs k t,gens=[⟨.Name x px,it,ifs,0⟩]/\isSet it=false/\sc.names.findIdx? (λp=>p.1==x)=some k/\AG ns sc k=true/\((ifs=[]/\t=.con (.bool true))\/∃ e,ifs=[e]/\t=h e)/\bE n (.lc (sc.names.map (mh ns)) k (g it) (h elt) t) l P X Q:=by refine k8 hw λq hq hw=>k8 hw λx hx hw=>?_;obtain⟨px,hx⟩:=iS hx;obtain⟨tg,it,ifs,as⟩:=q;obtain⟨hs,hw⟩:=DX hw;have hs:=Bool.or_eq_false_iff.mp hs;refine k8 hw λk hk hw=>?_;obtain⟨hl,hw⟩:=vO hw;refine k8 hw λt ht hw=>?_;exact⟨x,px,it,ifs,k,t,by rw[kT hq,show tg=_ from hx,show as=0 from bne_eq_false_iff_eq.mp hs.2],hs.1,hk,hl,H8 ht,hw⟩
set_option tactic.hygienic true in
theorem Fw{f:Nat}(H:dM f)(HT:sd f)(I:pA K)(M:CS f):dM (f+1):=by
 intro e c l P s X Q n O R S h;cases e<;>first|exact ck h|skip
 ·exact Jp H O R S h
 ·rename_i a op b pos
  exact k8 h λp hp h=>wpAny_BinOp (tP H O R S h λva vb P' s' S' h'=>LW hp S' h')
 ·rename_i op a pos
  cases op<;>first|exact ck h|skip
  refine UnaryOp_ (bG (H a c l P s X _ n O R S h) λv aP aF aH h₁=>?_);exact not_of (mP h₁ (λj q=>aH.ok q) λj q=>aH.ok q)
 ·rename_i args body sc pos
  replace h:bE n (if noArgs args&&qU c.env.scope.names sc pos then .lam (pos.line*1000+pos.col) ((sc.names.takeWhile λq=>q.2==.free).map λq=>(c.env.scope.names.findIdx? (λp=>p.1==q.1)).getD 0) (aC K f sc.names body) else .bad) l P X Q:=h
  ·have⟨hl,hv⟩:=vO h
   rw[e9] at hl;obtain rfl:=E2 hl.1;exact M.lam _ _ _ c l P s X Q n O R S hl.2 hv
 ·rename_i t a b pos
  refine IfExp_ (nJ (HT t c l P s X (λP=>bE n (aC K f c.env.scope.names a) l P X Q) (λP=>bE n (aC K f c.env.scope.names b) l P X Q) n O R S h) λr aP aF aH h₁=>?_);cases r
  ·exact H b c l aP aF X Q n O R aH h₁
  ·exact H a c l aP aF X Q n O R aH h₁
 ·exact Jq H O R S M h
 ·rename_i elt gens sc pos
  obtain⟨x,px,it,ifs,k,t,rfl,h1,h2,h3,h4,h5⟩:=xu h;exact M.lc _ _ _ px _ ifs _ k t c l P s X Q n O R S h1 h2 h4 h3 h5
 ·rename_i a ops bs pos
  obtain⟨op,b,p,rfl,rfl,hp,hb,h⟩:=JQ h;exact wpAny_Compare1 (tP H O R S h λva vb P' s' S' h'=>DS hp S' O R h') (vn hb)
 ·rename_i fn as kws pos
  cases kws with
  | cons _ _=>exact ck h
  | nil=>
   cases fn<;>first|exact ck h|skip
   ·exact Pk H O R S I h
   ·exact Pn H O R S I M.items M.Tj h
 ·rename_i k i pos
  cases k<;>first|exact ck h|skip
  ·exact aq (S.ok h)
  ·exact aq (S.ok h)
  ·exact wpAny_Constant_int ((S.toks _).ok h)
  ·exact wpAny_Constant_str ((S.toks _).ok h)
 ·rename_i o x pos
  refine k8 h λk hk h=>?_
  ··obtain⟨hb,h⟩:=DX h
    refine Attribute_any_ (bG (H o c l P s X _ n O R S h) λv aP aF aH h₁=>?_) (sS hb);exact mL I aH O (qi hk) h₁
 ·rename_i o i pos
  replace h:bE n (match zl i with
   | some q=>.prim q.1 (.cons (aC K f c.env.scope.names o) (match q.2 with
    | none=>.nil
    | some k=>.cons (aC K f c.env.scope.names k) .nil))
   | none=>if isSlice i then .bad else .prim .item (.cons (aC K f c.env.scope.names o) (.cons (aC K f c.env.scope.names i) .nil))) l P X Q:=h
  cases hp:zl i with
  | some q=>
   rw[hp] at h;obtain⟨p,k⟩:=q;cases k with
   | none=>exact xY H O R S hp h
   | some k=>exact xY H O R S hp h
  | none=>
   rw[hp] at h;dsimp only at h
   ·obtain⟨hi,h⟩:=DX h
    exact Subscript_ (tP H O R S h λva vb P' s' S' h'=>Ls S' O h' (FT hi))
 ·exact mO S O h
 ·rename_i es pos
  obtain⟨hs,h⟩:=dR h;refine List_ ?_;rw[iU hs];refine gH (fL H O R hs S h) λvs aP aF aH h₁=>?_;exact Lu aH h₁
 ·rename_i es k pos
  obtain⟨hs,h⟩:=dR h;refine Tuple_ ?_;rw[iU hs];refine gH (fL H O R hs S h) λvs aP aF aH h₁=>?_;exact I2 aH h₁
end
end
section
section
variable{X:XP}{N:NP}{R:VQ}{n:Nat}
noncomputable def aK(ns:NS):List Bool:=ns.map λq=>q.2==.cell
inductive UN(c:Fx)(N:NP)(s:Sh):Prop
 | mk (l:Lv) (P:PH) (S:St c l P s) (h:N l P)
inductive UO(c:Fx)(R:VQ)(v:Va)(s:Sh):Prop
 | mk (l:Lv) (P:PH) (S:St c l P s) (h:R (ab v) P)
def Fl(c:Fx)(N:NP)(R:VQ)(fl:Flow)(s:Sh):Prop:=match fl with
 | .next=>UN c N s
 | .ret v=>UO c R v s
 | _=>False
def bN(c:Fx)(X:XP)(N:NP)(R:VQ)(st:Stmt)(s:Sh):Prop:=wpAny (MM wd) c.A (exec st c.env) (Fl c N R) (Exc c X) s
theorem St.next(S:St c l P s)(h:N l P):Fl c N R .next s:=⟨l,P,S,h⟩
theorem x6{v:Expr}{t:Op Expr}{line:Nat}{env:Env}(h:yF v=false):swapsWith v t line env=pure false:=by cases v<;>first|rfl|cases h
theorem CC{v o:Expr}{x:Str}{pos:Pos}{line:Nat}{env:Env}:swapsWith v (some (.Attribute o x pos)) line env=pure false:=by cases v<;>rfl
theorem FW{v o i:Expr}{pos:Pos}{line:Nat}{env:Env}:swapsWith v (some (.Subscript o i pos)) line env=pure false:=by cases v<;>rfl
theorem E0{x:Str}{ns:NS}{j:Nat}(hj:dP K ns x=.loc j):∃ k,ns[j]?=some (x,k):=by
 have N:=vh ns x;rw[hj] at N;cases N with
 | loc _ k h=>exact⟨k,h⟩
theorem uO{x:Str}{p:Pos}{ns:NS}{i:Nat}(h:idxOf K ns (.Name x p)=some i):ns[i]?=some (x,.local)\/ns[i]?=some (x,.cell):=
 have h:(Dw (dP K ns x)).bind (λi=>if OD ns[i]? then some i else none)=some i:=h
 aN h λj h e=>(E0 (Ic h)).elim λk hk=>cK e (λq w=>by rw[hk] at q;rw[<-w,hk];cases k<;>first|exact .inl rfl|exact .inr rfl|exact gP q) bB
theorem ru{ns:NS}{i:Nat}{x:Str}(h:ns[i]?=some (x,.local)):jV (aK ns) i P=P:=by unfold jV aK;rw[gw,gj,h];rfl
theorem Ju{ns:NS}{i:Nat}{x:Str}(h:ns[i]?=some (x,.cell)):jV (aK ns) i P=bJ P:=by unfold jV aK;rw[gw,gj,h];rfl
theorem nG{x:Str}{p:Pos}{i:Nat}{Q':Unit->Sh->Prop}{A:Around}(S:St c l P s)(O:bM c)(he:c.aZ=c.env)(hi:idxOf K c.env.scope.names (.Name x p)=some i)(v:Va)
  (h:∀ s',St c (l.set i (some (ab v))) (jV (aK c.env.scope.names) i P) s'->Q' ⟨⟩ s'):wpAny (MM wd) A (storeName c.env x v) Q' E s:=by
 rcases uO hi with q|q
 ·rw[ru q] at h
  exact S.store O q v h
 ·rw[Ju q] at h
  obtain⟨a,ha⟩:=O.cA x (aT O.nd q);exact S.FN O he q ha v h
set_option tactic.hygienic true in
theorem jM{a v:Va}{k:Nat}{x:Str}{Q':Unit->Sh->Prop}{A:Around}(I:pA K)(S:St c l P s)(O:bM c)(hx:x=nm k){N:PH->Prop}(h:match ab a with|.ref a=>vR a k (ab v) P N|_=>False)(hQ:∀ P' s',St c l P' s'->N P'->Q' ⟨⟩ s'):wpAny (MM wd) A (setAttr a x v) Q' E s:=by
 cases a<;>first|exact ck h|skip
 rename_i a;replace h:vR a k (ab v) P N:=h;unfold vR at h;cases hP:P a with
 | none=>rw[hP] at h;exact ck h
 | some o=>
 rw[hP] at h;cases o<;>first|exact ck h|skip
 ·obtain⟨h1,h2,h3⟩:=h
  exact Cr S O hP (I.fld _ _ h1) hx h2 λs' S'=>hQ _ _ S' h3
 ·obtain⟨⟨rfl,h1⟩,h3⟩:=h
  exact Cq I.ex.exc S O hP h1 (B6 h1) hx λs' S'=>hQ _ _ S' h3
 ·obtain⟨⟨rfl,h1,h2⟩,h3⟩:=h
  exact AU I.ex.exc S O hP h1 (B6 h1) h2 hx λs' S'=>hQ _ _ S' h3
theorem cN{f:Nat}(H:dM f)(O:bM c)(Rm:bP n c.A)(S:St c l P s){e:Expr}{Q':VS}
  (h:bE n (aC K f c.env.scope.names e) l P X Q) (k:∀ v P' s',St c l P' s'->Q (ab v) P'->Q' v s'):wpAny (MM wd) c.A (eval e c.env) Q' (Exc c X) s:=ak (H e c l P s X Q n O Rm S h) (λv s' ⟨P',S',q⟩=>k v P' s' S' q) λj j x=>x
section
variable(H:dM 30)(HT:sd 30)(I:pA K)(O:bM c)(Rm:bP n c.A)(S:St c l P s)
include H O Rm S
theorem DV{e:Expr}{pos:Pos}(hi:interactive c.env=false)(hl:yF e=false)(h:wpS n (aK c.env.scope.names) (.expr (aC K 30 c.env.scope.names e)) l P X N R):bN c X N R (.Expr e pos) s:=wpAny_Expr_any (cN H O Rm S h λq q q S' h'=>S'.next h') hi (x6 hl)
theorem Pq(he:c.aZ=c.env){x:Str}{p pos:Pos}{v:Expr}{i:Nat}(hi:idxOf K c.env.scope.names (.Name x p)=some i)(hl:yF v=false)(h:wpS n (aK c.env.scope.names) (.dQ i (aC K 30 c.env.scope.names v)) l P X N R):bN c X N R (.Assign [.Name x p] v pos) s:=wpAny_Assign_Name (cN H O Rm S h λu q q S' h'=>nG S' O he hi u λq S''=>S''.next h') (x6 hl)
theorem Pw{e:Expr}{pos:Pos}(h:wpS n (aK c.env.scope.names) (.ret (aC K 30 c.env.scope.names e)) l P X N R):bN c X N R (.Return (some e) pos) s:=wpAny_Return_some (cN H O Rm S h λq P' q S' h'=>⟨l,P',S',h'⟩)
include I
theorem L4{o v:Expr}{x:Str}{p pos:Pos}{k:Nat}(hk:lO.findIdx? (·==x)=some k)(h:wpS n (aK c.env.scope.names) (.bI (aC K 30 c.env.scope.names o) k (aC K 30 c.env.scope.names v)) l P X N R):bN c X N R (.Assign [.Attribute o x p] v pos) s:=plainObj_wpAny_Assign_Attribute (cN H O Rm S h λ_ _ _ aH h₁=>cN H O Rm aH h₁ λ_ _ _ bU bA=>jM I bU O (qi hk) bA λ_ _ dS bY=>dS.next bY) CC
set_option tactic.hygienic true in
theorem Pr{o v:Expr}{x:Str}{p pos:Pos}{k:Nat}(hk:lO.findIdx? (·==x)=some k)
  (h:wpS n (aK c.env.scope.names) (.aug (aC K 30 c.env.scope.names o) k (aC K 30 c.env.scope.names v)) l P X N R):bN c X N R (.AugAssign (.Attribute o x p) .Add v pos) s:=by
 refine wpAny_AugAssign_AttributeAny (cN H O Rm S h λa aP aF aH h₁=>?_);cases a<;>first|exact ck h₁|skip
 rename_i a;refine bG (mL I aH O (qi hk) h₁) λold gT cD bU bA=>?_;refine cN H O Rm bU bA λu qF jC dS bY=>?_;cases old<;>first|exact ck bY|skip
 all_goals (cases u<;>first|exact ck bY|skip)
 refine PyProof.Rows.iadd_int ?_;exact jM (v:=.int _ _) I (dS.toks _) O (qi hk) bY λ_ _ lE sy=>lE.next sy
omit I
theorem Jz{o i v:Expr}{p pos:Pos}(h:wpS n (aK c.env.scope.names) (.fD (aC K 30 c.env.scope.names o) (aC K 30 c.env.scope.names i) (aC K 30 c.env.scope.names v)) l P X N R):bN c X N R (.Assign [.Subscript o i p] v pos) s:=wpAny_Assign_Subscript (cN H O Rm S h λ_ _ _ aH h₁=>cN H O Rm aH h₁ λ_ _ _ bU bA=>cN H O Rm bU bA λ_ _ _ dS bY=>oV dS O bY λ_ _ lE sy=>lE.next sy) FW
include HT
theorem R5{t:Expr}{a b:List Stmt}{ta tb:U}{pos:Pos}(h:wpS n (aK c.env.scope.names) (.bF (aC K 30 c.env.scope.names t) ta tb) l P X N R)
  (ha:∀ P' s',St c l P' s'->wpS n (aK c.env.scope.names) ta l P' X N R->wpAny (MM wd) c.A (execs a c.env) (Fl c N R) (Exc c X) s')
  (hb:∀ P' s',St c l P' s'->wpS n (aK c.env.scope.names) tb l P' X N R->wpAny (MM wd) c.A (execs b c.env) (Fl c N R) (Exc c X) s'):bN c X N R (.If t a b pos) s:=by
 refine wpAny_If (nJ (HT t c l P s X _ _ n O Rm S h) λr aP aF aH h₁=>?_);cases r
 ·exact hb _ _ aH h₁
 ·exact ha _ _ aH h₁
end
end
end
section
variable{X:XP}{N:NP}{R:VQ}{n:Nat}{I:Ad}{p p':Obj->Prop}
noncomputable def pinned(c:Fx)(I:Ad)(p:Obj->Prop):Fx:={ c with F:=cH c.F I p }
def nL(p:Obj->Prop):Prop:=∀ o,p o->(∀ v,o.data≠.cell v)/\∀ m,¬ dH m o
theorem nh(h:∀ o,p o->∃ vs,o.data=.fields vs):nL p:=λo q=>by obtain⟨vs,hv⟩:=h o q;exact⟨λv e=>(by rw[hv] at e;cases e),λm po=>gG po vs hv⟩
theorem HE(h:∀ o,p o->∃ vs n,o.data=.seq vs n):nL p:=λo q=>by obtain⟨vs,n,hv⟩:=h o q;refine⟨λv e=>(by rw[hv] at e;cases e),λm po=>?_⟩;obtain⟨es,ep,hd,_⟩:=po;rw[hv] at hd;cases hd
theorem nL.ny(h:nL p):pF p:=λo q v e=>(h o q).1 _ e
theorem pH(S:lT c l P s m G D)(hp:nL p)(hI:G I=some p){a:Ad}{mm:Str->Op Va}(ha:G a=some (dH mm)):a≠I:=by
 rintro rfl
 obtain⟨_,o,eo,po⟩:=S.sat.hid _ _ hI;obtain⟨_,o',eo',po'⟩:=S.sat.hid _ _ ha;rw[eo] at eo';obtain rfl:=kr eo';exact(hp _ po).2 _ po'
theorem mX(S:lT c l P s m G D)(hp:nL p)(hI:G I=some p){a:Ad}{v:Op Va}(ha:G a=some (eS v)):a≠I:=by
 rintro rfl
 obtain⟨_,o,eo,po⟩:=S.sat.hid _ _ hI;obtain⟨_,o',eo',po'⟩:=S.sat.hid _ _ ha;rw[eo] at eo';obtain rfl:=kr eo';exact(hp _ po).1 _ po'
theorem Ij{env:Env}(L:lq env G m l)(h:∀ a v,G a=some (eS v)->a≠I):lq env (cH G I p) m l:=λi v e=>by
 obtain⟨x,k,hx,b⟩:=L i v e;refine⟨x,k,hx,?_⟩;rcases b with b|⟨hc,a,v',ea,ga,q⟩
 ·exact .inl b
 ·exact .inr ⟨hc,a,v',ea,by rw[aE (h _ _ ga)];exact ga,q⟩
theorem bM.pin(O:bM c)(S:St c l P s)(hs:s.heap.objs.size<=I):bM (pinned c I p)/\c.F I=none:=by
 obtain⟨m,G,D,S⟩:=S
 have lt:∀ a q,G a=some q->a≠I:=λa q h=>by
  rintro rfl
  obtain⟨_,o,eo,_⟩:=S.sat.hid _ _ h;exact absurd (fy eo) (Nat.not_lt.mpr hs)
 refine⟨⟨O.hA,O.hh,O.knd,O.qS,O.JT,O.nd,?_,λhe x a h1 h2=>?_,O.cI,O.fk,O.X,O.top,O.big,O.st,λe he=>?_,O.cA,O.fl,O.NR,O.Nz,O.GX⟩,?_⟩
 ·exact(aE (lt _ _ S.loc)).trans O.nF
 ·obtain⟨v,hv⟩:=S.nZ x a h1
  exact(aE (lt _ _ hv)).trans (O.cF he x a h1 h2)
 ·obtain⟨h1,Li,mi,h2,h3⟩:=O.frs e he
  exact⟨h1,Li,mi,h2,(aE (lt _ _ (S.ext _ _ h3))).trans h3⟩
 ·cases q:c.F I with
  | none=>rfl
  | some r=>exact absurd rfl (lt _ _ (S.ext _ _ q))
theorem St.pin(S:St c l P s)(k:gS s.heap s'.heap)(t:Step s s')(hs:s.heap.objs.size<=I)(ho:∃ o,s'.heap.get? I=some o/\p o):St (pinned c I p) l P s':=by
 obtain⟨m,G,D,S⟩:=S
 have lt:∀ a q,G a=some q->a≠I:=λa q h=>by
  rintro rfl
  obtain⟨_,o,eo,_⟩:=S.sat.hid _ _ h;exact absurd (fy eo) (Nat.not_lt.mpr hs)
 obtain⟨z1,z2⟩:=S.sat.lt hs;refine⟨m,cH G I p,D,λa q h=>?_,(aE (lt _ _ S.loc)).trans S.loc,?_,λx a h=>?_,λa q h=>?_,?_,Ij S.lv λa v h=>lt _ _ h,t.g.trans S.gens,t.o.trans S.os⟩
 ·by_cases ha:a=I
  ·subst ha
   rw[show(pinned c a p).F a=some p from aJ ..] at h;obtain rfl:=kr h;exact aJ ..
  ·rw[show(pinned c I p).F a=c.F a from aE ha] at h;exact(aE ha).trans (S.ext _ _ h)
 ·obtain⟨Lf,mf,e1,e2⟩:=S.nM
  exact⟨Lf,mf,e1,(aE (lt _ _ e2)).trans e2⟩
 ·obtain⟨v,hv⟩:=S.nZ x a h
  exact⟨v,(aE (lt _ _ hv)).trans hv⟩
 ·by_cases ha:a=I
  ·subst ha
   rw[aJ] at h;obtain rfl:=kr h;exact .inl (aJ ..)
  ·rw[aE ha] at h
   exact(S.own a q h).imp_left λz=>(aE ha).trans z
 ·refine S.sat.hides (.of_keep S.sat.stay k) (λa q h=>(aE (lt _ _ h)).trans h) λa q h=>?_
  by_cases ha:a=I
  ·subst ha
   rw[aJ] at h;obtain rfl:=kr h;exact .inr ⟨z1,z2,ho⟩
  ·rw[aE ha] at h;exact .inl h
theorem lT.kE(S:lT (pinned c I p) l P s m G D):G I=some p:=S.ext _ _ (aJ ..)
theorem St.xU(S:St (pinned c I p) l P s)(hp:nL p)(k:∀ b o,b≠I->s.heap.get? b=some o->s'.heap.get? b=some o)(t:Step s s')(ho:∃ o,s'.heap.get? I=some o/\p' o):St (pinned c I p') l P s':=by
 obtain⟨m,G,D,S⟩:=S;have hI:=S.kE;obtain⟨ob,e,hob⟩:=ho;refine⟨m,cH G I p',D,λa q h=>?_,(aE (pH S hp hI S.loc)).trans S.loc,?_,λx a h=>?_,λa q h=>?_,?_,Ij S.lv λa v h=>mX S hp hI h,t.g.trans S.gens,t.o.trans S.os⟩
 ·by_cases ha:a=I
  ·subst ha
   rw[show(pinned c a p').F a=some p' from aJ ..] at h;obtain rfl:=kr h;exact aJ ..
  ·rw[show(pinned c I p').F a=c.F a from aE ha] at h
   exact(aE ha).trans (S.ext _ _ ((aE ha).trans h))
 ·obtain⟨Lf,mf,e1,e2⟩:=S.nM
  exact⟨Lf,mf,e1,(aE (pH S hp hI e2)).trans e2⟩
 ·obtain⟨v,hv⟩:=S.nZ x a h
  exact⟨v,(aE (mX S hp hI hv)).trans hv⟩
 ·by_cases ha:a=I
  ·subst ha
   rw[aJ] at h;obtain rfl:=kr h;exact .inl (aJ ..)
  ·rw[aE ha] at h
   refine(S.own a q h).imp_left λz=>?_;rw[show(pinned c I p).F a=c.F a from aE ha] at z;exact(aE ha).trans z
 ·refine S.sat.zk (.gY S.sat.stay k (S.sat.hid _ _ hI).b) hI e hob (.inr λoc e' v q=>?_)
  obtain⟨_,o,eo,po⟩:=S.sat.hid _ _ hI;rw[eo] at e';obtain rfl:=kr e';exact hp.ny _ po v q
theorem lT.jO(S:lT (pinned c I p) l P s m G D)(hp:nL p)(hn:c.F I=none):lT c l P s m G D:=by
 refine⟨λa q h=>?_,S.loc,S.nM,S.nZ,λa q h=>?_,S.sat,S.lv,S.gens,S.os⟩
 ·have ha:a≠I:=by rintro rfl;rw[hn] at h;cases h
  exact S.ext _ _ ((aE ha).trans h)
 ·by_cases ha:a=I
  ·subst ha
   rw[S.kE] at h;obtain rfl:=kr h;exact .inr (.inl hp.ny)
  ·refine(S.own a q h).imp_left λz=>?_
   rw[show(pinned c I p).F a=c.F a from aE ha] at z;exact z
theorem St.jO(S:St (pinned c I p) l P s)(hp:nL p)(hn:c.F I=none):St c l P s:=by obtain⟨m,G,D,S⟩:=S;exact⟨m,G,D,S.jO hp hn⟩
theorem Exc.jO{ev:Va}(h:Exc (pinned c I p) X ev s)(hp:nL p)(hn:c.F I=none):Exc c X ev s:=by obtain⟨e,P,m,G,D,B,fl,rfl,hfl,S,hX⟩:=h;exact⟨e,P,m,G,D,B,fl,rfl,hfl,⟨S.st.jO hp hn,S.Bu,S.base,S.Oe,S.Hj⟩,hX⟩
theorem Exc.Af{ev:Va}{Lf:Ad}(O:bM c)(hf:c.env.frame=some Lf)(he:c.aZ=c.env){e:Ad}{P:PH}{m:Str->Op Va}{G:HF}{D:Ad->Ad}{B:Heap}(S:BA c P e (rawInt Lf) s m G D B)(hX:X e P)(hev:ev=.ref e):
  cameBackBy (MM wd) c.A c.env (Exc c X) ev s:=by subst hev;obtain⟨oe,vs,T,oT,ts,h1,h2,h3,h4,h5,h6,h7,h8⟩:=S.Bu.tr;unfold cameBackBy;refine af (cg h1 h2 h3 ?_);rw[aa (show ¬ ((Value.ref T==Value.none)=true) from Bool.false_ne_true)];refine kX S.Bu λh' F ch=>?_;rw[hf] at F;exact⟨e,P,m,G,D,B,rawInt Lf,rfl,.inr ⟨Lf,by rw[he];exact hf,rfl⟩,S.move O F ch,hX⟩
theorem Exc.loop{ev:Va}(O:bM c)(he:c.aZ=c.env)(h:Exc c X ev s):notedBy (MM wd) c.A c.env (cameBackBy (MM wd) c.A c.env (Exc c X)) ev s:=by
 obtain⟨e,P,m,G,D,B,fl,rfl,hfl,S,hX⟩:=h;obtain⟨Lf,mf,e1,e2⟩:=S.st.nM;have hf:c.env.frame=some Lf:=by rw[<-he];exact e1
 unfold notedBy;rcases hfl with rfl|⟨L',q,rfl⟩
 ·refine qY (outer:=c.outer) (by rw[<-he];exact O.hA) hf (by rw[<-he];exact S.Bu) λh' F ch=>?_
  rw[<-he] at F;exact Exc.Af O hf he (S.move O F ch) hX rfl
 ·rw[e1] at q;obtain rfl:=kr q
  exact qX hf S.Bu (Exc.Af O hf he S hX rfl)
end
section
section
variable{X:XP}{N:NP}{R:VQ}{n:Nat}{I:Ad}{p p':Obj->Prop}
structure tR(a:Ad)(o:PO)(vs:List Va)(pin:Nat->Obj->Prop):Prop where
 fld:∀ i,nL (pin i)
 item:∀(A:Around) (s:Sh) (I:Ad) (F:HF) (d i:Nat) (v':Va) (Q:Op Va->Sh->Prop) (E:VS),A.handled=none->a≠I->cY s.heap F d a o->(∃ ob,s.heap.get? I=some ob/\pin i ob)->vs[i]?=some v'->(∀ v h',ab v=v'->(∃ ob,h'.get? I=some ob/\pin (i+1) ob)->Heap.SameBut I s.heap h'->Q (some v) { s with heap:=h' })->wpAny (MM wd) A (pyNext (.ref I)) Q E s
 done:∀(A:Around) (s:Sh) (I:Ad) (F:HF) (d:Nat) (Q:Op Va->Sh->Prop) (E:VS),A.handled=none->a≠I->cY s.heap F d a o->(∃ ob,s.heap.get? I=some ob/\pin vs.length ob)->(∀ h',Heap.ExtBut I s.heap h'->Q none { s with heap:=h' })->wpAny (MM wd) A (pyNext (.ref I)) Q E s
theorem Sat.drop{base h h':Heap}{F:HF}{a:Ad}(S:Sat base h F P D)(k:Mv base F (·=a) h h')(ha:F a=some p)(hl:∀ oc,h.get? a=some oc->∀ v,oc.data≠.cell (some v)):
  Sat base h' (λb=>if b=a then none else F b) P D:=by
 have off:∀ b q,(if b=a then none else F b)=some q->b≠a/\F b=some q:=λb q h=>by
  by_cases hb:b=a
  ·rw[ai hb] at h;exact bB h
  ·rw[aa hb] at h;exact⟨hb,h⟩
 exact⟨k.stay,λb q hq=>let ⟨x,o,y,z⟩:=S.hid b q (off b q hq).2;.of x (k.hid b q o (off b q hq).2 (off b q hq).1 y z),λb x hb=>⟨(S.rel b x hb).1,(S.xT k (S.fa hb a p ha).symm (λhx=>S.fd a p ha b x hb hx) hb).Oa λj b p v e hp=>(aa (S.ny e hp hl)).trans e⟩,S.dle,S.dn,S.di,λb q hq=>S.fp b q (off b q hq).2,λb q hq=>S.fd b q (off b q hq).2⟩
theorem lT.drop{h':Heap}(S:lT (pinned c I p) l P s m G D)(hp:nL p)(hn:c.F I=none)(k:Heap.ExtBut I s.heap h'):St c l P { s with heap:=h' }:=by
 have hI:=S.kE;have aL:=pH S hp hI S.loc;obtain⟨zI,oI,eI,pI⟩:=S.sat.hid _ _ hI;obtain⟨zL,oL,eL,_⟩:=S.sat.hid _ _ S.loc;have U:=S.jO hp hn;have nI:∀ b,b≠I->(if b=I then none else G b)=G b:=λb hb=>aa hb;refine⟨m,λb=>if b=I then none else G b,D,λb q h=>?_,(nI _ aL).trans S.loc,?_,λx b h=>?_,λb q h=>?_,?_,λi v e=>?_,S.gens,S.os⟩
 ·have hb:b≠I:=by rintro rfl;rw[hn] at h;cases h
  exact(nI _ hb).trans (U.ext _ _ h)
 ·obtain⟨Lf,mf,e1,e2⟩:=S.nM
  exact⟨Lf,mf,e1,(nI _ (pH S hp hI e2)).trans e2⟩
 ·obtain⟨v,hv⟩:=S.nZ x b h
  exact⟨v,(nI _ (mX S hp hI hv)).trans hv⟩
 ·by_cases hb:b=I
  ·subst hb
   simp at h
  ·replace h:(if b=I then none else G b)=some q:=h
   rw[nI _ hb] at h;exact U.own b q h
 ·refine S.sat.drop (.gY S.sat.stay (λb o hb e=>k b o hb e) zI) hI λoc e v q=>?_
  rw[eI] at e;obtain rfl:=kr e;exact hp.ny _ pI v q
 ·obtain⟨x,kk,hx,b⟩:=S.lv i v e
  refine⟨x,kk,hx,?_⟩;rcases b with b|⟨hc,a,v',ea,ga,q⟩
  ·exact .inl b
  ·exact .inr ⟨hc,a,v',ea,(nI _ (mX S hp hI ga)).trans ga,q⟩
inductive SD(c:Fx)(I a:Ad)(o:PO)(vs:List Va)(pin:Nat->Obj->Prop)(step:Va->Lv->PH->(NP)->Prop)(N:NP)(k:Nat)(s:Sh):Prop
 | mk (i:Nat) (l:Lv) (P:PH) (hk:k=vs.length-i) (hi:i<=vs.length) (S:St (pinned c I (pin i)) l P s) (hP:P a=some o) (h:cL step (λP'=>P' a=some o) (vs.drop i) l P N)
theorem FH{a:Ad}{o:PO}{vs:List Va}{pin:Nat->Obj->Prop}{target:Expr}{body:List Stmt}{step:Va->Lv->PH->(NP)->Prop}
  (T:tR a o vs pin) (O:bM c) (he:c.aZ=c.env) (hn:c.F I=none)
  (hb:∀ i v l P s (k:NP),St (pinned c I (pin i)) l P s->step (ab v) l P k->wpAny (MM wd) c.A (letOwnedTupleGo target (.ref I) v) (λ_ aF=>wpAny (MM wd) c.A (assign target c.env v) (λ_ cD=>wpAny (MM wd) c.A (execs body c.env) (Fl (pinned c I (pin i)) k R) (Exc (pinned c I (pin i)) X) cD) (Exc (pinned c I (pin i)) X) aF) (Exc (pinned c I (pin i)) X) s)
  (S:St (pinned c I (pin 0)) l P s) (hP:P a=some o) (h:cL step (λP'=>P' a=some o) vs l P N):
  codeAny (MM wd) c.A (.forLoop target (.ref I) body [] c.env) (λr s'=>match r with|.ok f=>Fl c N R f s'|.error e=>cameBackBy (MM wd) c.A c.env (Exc c X) e s') s:=by
 have ex:∀{i:Nat} {ev:Va} {s:Sh},Exc (pinned c I (pin i)) X ev s->notedBy (MM wd) c.A c.env (cameBackBy (MM wd) c.A c.env (Exc c X)) ev s:=λh=>(h.jO (T.fld _) hn).loop O he;refine codeAny_forLoop_any (SD c I a o vs pin step N) ?_ vs.length ⟨0,l,P,rfl,j5 _,S,hP,h⟩
 rintro k s ⟨i,l,P,rfl,hi,⟨m,G,D,S⟩,hP,h⟩
 have hI:=S.kE;have hne:a≠I:=λq=>by have:=S.sat.fp _ _ hI;rw[<-q,hP] at this;cases this
 obtain⟨_,ob,eo,po⟩:=S.sat.hid _ _ hI;have hr:=(S.sat.rel a o hP).2;rcases Nat.lt_or_ge i vs.length with hlt|hge
 ·have hg:vs[i]?=some vs[i]:=f9 hlt
  rw[List.drop_eq_getElem_cons hlt] at h;refine T.item _ _ _ _ _ i _ _ _ O.hh hne hr ⟨ob,eo,po⟩ hg λv h' hv hp' sb=>?_;have aH:St (pinned c I (pin (i+1))) l P { s with heap:=h' }:=St.xU ⟨m,G,D,S⟩ (T.fld _) (λb o hb e=>(sb.2 b hb).trans e) ⟨gi (tO sb).symm,rfl,rfl⟩ hp';have h2:step (ab v) l P λl' P'=>P' a=some o/\cL step (λP'=>P' a=some o) (vs.drop (i+1)) l' P' N:=by rw[hv];exact h
  refine ak (hb _ v l P _ _ aH h2) (λ_ aF h₁=>?_) λj j x=>ex x;refine ak h₁ (λ_ cD bA=>?_) λj j x=>ex x;refine ak bA (λf jC bY=>?_) λj j x=>ex x;cases f with
  | next=>obtain⟨l',P',S',hP',h'⟩:=bY;exact⟨vs.length-(i+1),by lia,i+1,l',P',rfl,hlt,S',hP',h'⟩
  | cont=>exact ck bY
  | brk=>exact ck bY
  | ret v=>obtain⟨l',P',S',h'⟩:=bY;exact⟨l',P',S'.jO (T.fld _) hn,h'⟩
 ·have hie:i=vs.length:=Nat.le_antisymm hi hge
  subst hie;rw[List.drop_eq_nil_of_le (f7 _)] at h;exact T.done _ _ _ _ _ _ _ O.hh hne hr ⟨ob,eo,po⟩ λh' xb=>bq ⟨l,P,S.drop (T.fld _) hn xb,h⟩
theorem zm{a:Ad}{o:PO}{vs:List Va}{pin:Nat->Obj->Prop}{target:Expr}{body:List Stmt}{step:Va->Lv->PH->(NP)->Prop}{ob:Obj}
  (T:tR a o vs pin) (O:bM c) (he:c.aZ=c.env) (hp0:pin 0 ob) (hfr:ob.isFreed=false)
  (hb:∀ I i v l P s (k:NP),bM (pinned c I (pin i))->St (pinned c I (pin i)) l P s->step (ab v) l P k->wpAny (MM wd) c.A (letOwnedTupleGo target (.ref I) v) (λ_ aF=>wpAny (MM wd) c.A (assign target c.env v) (λ_ cD=>wpAny (MM wd) c.A (execs body c.env) (Fl (pinned c I (pin i)) k R) (Exc (pinned c I (pin i)) X) cD) (Exc (pinned c I (pin i)) X) aF) (Exc (pinned c I (pin i)) X) s)
  (S:St c l P s) (hP:P a=some o) (h:cL step (λP'=>P' a=some o) vs l P N):
  codeAny (MM wd) c.A (.forLoop target (.ref s.heap.objs.size) body [] c.env) (λr s'=>match r with|.ok f=>Fl c N R f s'|.error e=>cameBackBy (MM wd) c.A c.env (Exc c X) e s') { s with heap:=s.heap.push ob }:=by have hn:=(O.pin (p:=pin 0) S (f7 _)).2;have kp:gS s.heap (s.heap.push ob):=λb x e=>ek ob e;refine FH T O he hn (λi v uY aP aF k aH h₁=>hb _ i v uY aP aF k (O.pin S (f7 _)).1 aH h₁) ?_ hP h;exact S.pin (s':={ s with heap:=s.heap.push ob }) kp ⟨by show _<=(s.heap.push ob).objs.size;simp [Heap.push],rfl,rfl⟩ (f7 _) ⟨ob,fj _ hfr,hp0⟩
def qT(a:Ad)(i:Nat):Obj->Prop:=λo=>o.cls=.type "list_iterator"/\o.data=.fields #[.ref a,.int i 0]
def R7(a:Ad)(i:Nat):Obj->Prop:=λo=>o.cls=.type "tuple_iterator"/\o.data=.fields #[.ref a,.int i 0]
theorem vG{a:Ad}{t:Nat × Nat}{vs:List Va}:tR a (.list t vs) vs (qT a) where
 fld:=λi=>nh λo h=>⟨_,h.2⟩
 item:=λA s I F d i v' Q E hh hne hr ⟨ob,eo,po⟩ hv h=>by obtain⟨us,k,e1,e2⟩:=hr;subst e2;rw[gj,Option.map_eq_some_iff] at hv;obtain⟨u,hu,rfl⟩:=hv;exact wpAny_pyNext_list_item ⟨ob,eo,po⟩ (bK e1) (x:=u) (by simpa using hu) λh' ⟨o',x1,x2⟩ sb=>h u h' rfl ⟨o',x1,x2⟩ sb
 done:=λA s I F d Q E hh hne hr ⟨ob,eo,po⟩ h=>by obtain⟨us,k,e1,e2⟩:=hr;subst e2;exact wpAny_pyNext_list_end hh ⟨ob,eo,po⟩ (bK e1) (by simp) λh' x=>h h' x
theorem x8{a:Ad}{vs:List Va}:tR a (.tup vs) vs (R7 a) where
 fld:=λi=>nh λo h=>⟨_,h.2⟩
 item:=λA s I F d i v' Q E hh hne hr ⟨ob,eo,po⟩ hv h=>by obtain⟨us,k,e1,e2⟩:=hr;subst e2;rw[gj,Option.map_eq_some_iff] at hv;obtain⟨u,hu,rfl⟩:=hv;exact wpAny_pyNext_tuple_item ⟨ob,eo,po⟩ ⟨_,e1,rfl,k,rfl⟩ (x:=u) (by simpa using hu) λh' ⟨o',x1,x2⟩ sb=>h u h' rfl ⟨o',x1,x2⟩ sb
 done:=λA s I F d Q E hh hne hr ⟨ob,eo,po⟩ h=>by obtain⟨us,k,e1,e2⟩:=hr;subst e2;exact wpAny_pyNext_tuple_end hh ⟨ob,eo,po⟩ ⟨_,e1,rfl,k,rfl⟩ (by simp) λh' x=>h h' x
end
end
section
variable{X:XP}{N:NP}{R:VQ}{n:Nat}{I:Ad}{p p':Obj->Prop}
theorem St.keep'(S:St c l P s)(k:gS s.heap s'.heap)(g:s'.gens=s.gens)(o:s'.os=s.os):St c l P s':=by obtain⟨m,G,D,h⟩:=S;exact⟨m,G,D,h.ext,h.loc,h.nM,h.nZ,h.own,h.sat.keep (.of_keep h.sat.stay k),h.lv,g.trans h.gens,o.trans h.os⟩
def JS(n:Nat)(c:Fx)(X:XP)(u:U)(body:List Stmt):Prop:=∀(c':Fx) (l:Lv) (P:PH) (s:Sh) (N:NP) (R:VQ),c'.env=c.env->c'.aZ=c.aZ->c'.A=c.A->bM c'->St c' l P s->wpS n (aK c.env.scope.names) u l P X N R->wpAny (MM wd) c'.A (execs body c'.env) (Fl c' N R) (Exc c' X) s
theorem kQ{it:Expr}(h:isSet it=false)(env:Env):∀ x,foldedSetIterable it env x=pure x:=λx=>by cases it<;>first|rfl|cases h
def QY(a:Ad)(n ep i:Nat):Obj->Prop:=λo=>o.cls=.type "dict_keyiterator"/\o.data=.fields #[.ref a,.int i 0,.int n 0,.int ep 0]
theorem xx{h:Heap}{F:HF}{d a:Ad}{ep:Nat}{kvs:List (Str × Va)}(r:cY h F d a (.dict (ep,1) kvs)):∃ kvs',h.DictAt (strKind pw wd) a kvs' ep/\kvs'.map kI=kvs:=by obtain⟨⟨o,kvs',e1,⟨es,ep',x1,x2,x3⟩,e2⟩,h3⟩:=r;obtain⟨o',es',y1,y2⟩:=h3 rfl;rw[e1] at y1;obtain rfl:=kr y1;rw[x2] at y2;cases y2;exact⟨kvs',⟨o,es,e1,x1,x2,x3⟩,e2⟩
theorem CF{a:Ad}{ep:Nat}{kvs:List (Str × Va)}:tR a (.dict (ep,1) kvs) (kvs.map λe=>.str e.1 0) (QY a kvs.length ep) where
 fld:=λi=>nh λo h=>⟨_,h.2⟩
 item:=λA s I F d i v' Q E hh hne hr ⟨ob,eo,po⟩ hv h=>by obtain⟨kvs',hat,e2⟩:=xx hr;subst e2;rw[ir,gj,Option.map_eq_some_iff] at hv;obtain⟨u,hu,rfl⟩:=hv;rw[ef] at po;refine wpAny_pyNext_dict_item (knd:=strKind pw wd) (k:=u.1) (v:=u.2) ⟨ob,eo,po⟩ hat hu λkey h' hk ⟨o',x1,x2⟩ sb=>?_;obtain⟨t,q3⟩:=Value.isStrOf_shape hk;subst q3;exact h _ h' rfl ⟨o',x1,by rw[ef];exact x2⟩ sb
 done:=λA s I F d Q E hh hne hr ⟨ob,eo,po⟩ h=>by obtain⟨kvs',hat,e2⟩:=xx hr;subst e2;simp only[ef] at po;exact wpAny_pyNext_dict_end (knd:=strKind pw wd) hh ⟨ob,eo,po⟩ hat (by simp) λh' x=>h h' x
theorem St.fix{a:Ad}{t:Nat × Nat}{kvs:List (Str × Va)}(S:St c l P s)(hP:P a=some (.dict t kvs)):∃ ep kvs',s.heap.DictAt (strKind pw wd) a kvs' ep/\kvs'.map kI=kvs/\St c l (upd P a (.dict (ep,1) kvs)) s:=by obtain⟨m,G,D,S'⟩:=id S;obtain⟨⟨o,kvs',e1,⟨es,ep,x1,x2,x3⟩,e2⟩,_⟩:=(S'.sat.rel a _ hP).2;exact⟨ep,kvs',⟨o,es,e1,x1,x2,x3⟩,e2,S.set (s':=s) (λq q q e=>e) ⟨f7 _,rfl,rfl⟩ hP rfl rfl λF d=>⟨⟨o,kvs',e1,⟨es,ep,x1,x2,x3⟩,e2⟩,λq=>⟨o,es,e1,x2⟩⟩⟩
section
variable(H:dM 30)(HT:sd 30)(O:bM c)(Rm:bP n c.A)(S:St c l P s)(he:c.aZ=c.env)
include H O Rm S he
set_option tactic.hygienic true in
theorem LZ{x:Str}{px pos:Pos}{it:Expr}{body:List Stmt}{tb:U}{i:Nat}(hi:idxOf K c.env.scope.names (.Name x px)=some i)(hset:isSet it=false)(hb:JS n c X tb body)
  (h:wpS n (aK c.env.scope.names) (.loop i (aC K 30 c.env.scope.names it) tb) l P X N R):bN c X N R (.For (.Name x px) it body [] pos) s:=by
 refine wpAny_For (cN H O Rm S h λv aP aF aH h₁=>?_) (kQ hset _);have turn:∀(pin:Nat->Obj->Prop) (I:Ad) (j:Nat) (v:Va) (l:Lv) (P:PH) (s:Sh) (k:NP),bM (pinned c I (pin j))->St (pinned c I (pin j)) l P s->wpS n (aK c.env.scope.names) tb (l.set i (some (ab v))) (jV (aK c.env.scope.names) i P) X k R->wpAny (MM wd) c.A (letOwnedTupleGo (.Name x px) (.ref I) v) (λ_ aF=>wpAny (MM wd) c.A (assign (.Name x px) c.env v) (λ_ cD=>wpAny (MM wd) c.A (execs body c.env) (Fl (pinned c I (pin j)) k R) (Exc (pinned c I (pin j)) X) cD) (Exc (pinned c I (pin j)) X) aF) (Exc (pinned c I (pin j)) X) s:=λpin I j v l P s k O' S' h'=>by refine aq ?_;exact jm (nG (c:=pinned c I (pin j)) S' O' he hi v λs' S''=>hb (pinned c I (pin j)) _ _ _ _ _ rfl rfl rfl O' S'' h')
 cases v<;>first|exact ck h₁|skip
 ·rename_i y t
  obtain⟨hy,h₁⟩:=h₁;subst hy;refine wpAny_pyIter_str λo St W h0=>?_;refine codeAny_forLoop_any (λu s=>s={ aF with heap:=aF.heap.push o }) (λu s q=>?_) 0 rfl;subst q;refine(W c.A O.hh).done { aF with heap:=aF.heap.push o } _ _ h0 λh' tk k=>bq ⟨l,aP,aH.keep' (λb ob e=>?_) rfl rfl,h₁⟩;exact k b ob (λq=>by simp at q;rw[q] at e;exact absurd (fy e) (ig _)) (ek _ e)
 ·rename_i a
  replace h₁:(match aP a with
   | some (.dict _ kvs)=>kvs.length<big/\∀ ep,cL (λv l P k=>wpS n (aK c.env.scope.names) tb (l.set i (some v)) (jV (aK c.env.scope.names) i P) X k R) (λP'=>P' a=some (.dict (ep,1) kvs)) (kvs.map λe=>.str e.1 0) l (upd aP a (.dict (ep,1) kvs)) N
   | some o=>(match itemsOf o with
    | some vs=>vs.length<big/\cL (λv l P k=>wpS n (aK c.env.scope.names) tb (l.set i (some v)) (jV (aK c.env.scope.names) i P) X k R) (λP'=>P' a=some o) vs l aP N
    | none=>False)
   | none=>False):=h₁
  cases hP:aP a with
  | none=>rw[hP] at h₁;exact ck h₁
  | some o=>
  rw[hP] at h₁;cases o<;>first|exact ck h₁|skip
  ·rename_i t kvs
   obtain⟨_,h₁⟩:=h₁;have hm:=(iA aH O hP).1;obtain⟨ep,kvs',hat,e2,bU⟩:=aH.fix hP;refine wpAny_pyIter_dict hm hat ?_;refine zm (pin:=QY a kvs.length ep) CF O he ⟨rfl,by rw[<-e2,ef];rfl⟩ rfl (turn _) bU (by unfold upd;simp) (h₁ ep)
  ·rename_i t vs
   obtain⟨us,k,e1,e2⟩:=eT aH hP;refine wpAny_pyIter_list (bK e1) ?_;exact zm vG O he ⟨rfl,rfl⟩ rfl (turn _) aH hP h₁.2
  ·rename_i vs
   obtain⟨m,G,D,zO⟩:=id aH;obtain⟨us,k,e1,e2⟩:=(zO.sat.rel a _ hP).2;refine wpAny_pyIter_tuple ⟨_,e1,rfl,k,rfl⟩ ?_;exact zm x8 O he ⟨rfl,rfl⟩ rfl (turn _) aH hP h₁.2
omit H
include HT
theorem JB{t:Expr}{body:List Stmt}{tb:U}{pos:Pos}(hb:JS n c X tb body)
  (h:wpS n (aK c.env.scope.names) (.sO (aC K 30 c.env.scope.names t) tb) l P X N R):bN c X N R (.While t body [] pos) s:=by
 obtain⟨f,h⟩:=h;refine wpAny_While ?_;have ex:∀{ev:Va} {s:Sh},Exc c X ev s->notedBy (MM wd) c.A c.env (cameBackBy (MM wd) c.A c.env (Exc c X)) ev s:=λh=>h.loop O he;refine codeAny_whileLoop (λk s=>∃ l P,St c l P s/\r8 (λl P Q=>bE n (aC K 30 c.env.scope.names t) l P X Q) (λl P k=>wpS n (aK c.env.scope.names) tb l P X k R) k l P N) ?_ f ⟨l,P,S,h⟩
 rintro k s ⟨l,P,S,h⟩
 cases k with
 | zero=>exact ck h
 | succ k=>
  refine ak (HT t c l P s X _ _ n O Rm S h) (λr aF h₁=>?_) λq q x=>ex x;obtain⟨aP,aH,h₁⟩:=h₁;cases r
  ·exact bq ⟨l,aP,aH,h₁⟩
  ·refine ak (hb c l aP aF _ R rfl rfl rfl O aH h₁) (λfl cD bA=>?_) λq q x=>ex x
   cases fl with
   | next=>obtain⟨AL,gT,bU,bA⟩:=bA;exact⟨k,Nat.lt_succ_self k,AL,gT,bU,bA⟩
   | cont=>exact ck bA
   | brk=>exact ck bA
   | ret v=>exact bA
end
end
section
structure yb:Prop where
 MV:∀(c:Fx) (l:Lv) (P:PH) (s:Sh) (X:XP) (N:NP) (R:VQ) (n:Nat) (x:Str) (p pos:Pos) (v:Expr) (i:Nat),bM c->bP n c.A->St c l P s->c.aZ=c.env->yF v=true->yK c.env.scope.names x p v=true->idxOf K c.env.scope.names (.Name x p)=some i->wpS n (aK c.env.scope.names) (.dQ i (aC K 30 c.env.scope.names v)) l P X N R->bN c X N R (.Assign [.Name x p] v pos) s
 iG:∀(c:Fx) (l:Lv) (P:PH) (s:Sh) (X:XP) (N:NP) (R:VQ) (n:Nat) (es:List Expr) (k:Nat) (tp pos:Pos) (v:Expr) (is:List Nat),bM c->bP n c.A->St c l P s->c.aZ=c.env->idxs K c.env.scope.names es=some is->(rE c.env.scope.names es is v).isSome=true->wpS n (aK c.env.scope.names) (.iG is (aC K 30 c.env.scope.names v)) l P X N R->bN c X N R (.Assign [.Tuple es k tp] v pos) s
 mH:∀(c:Fx) (l:Lv) (P:PH) (s:Sh) (X:XP) (N:NP) (R:VQ) (n:Nat) (o1 o2 v1 v2:Expr) (x1 x2:Str) (p1 p2 tp vp pos:Pos) (k k':Nat) (k1 k2:Nat),bM c->bP n c.A->St c l P s->c.aZ=c.env->lO.findIdx? (·==x1)=some k1->lO.findIdx? (·==x2)=some k2->[v1,v2].any isStar=false->wpS n (aK c.env.scope.names) (.mH (aC K 30 c.env.scope.names o1) k1 (aC K 30 c.env.scope.names o2) k2 (aC K 30 c.env.scope.names v1) (aC K 30 c.env.scope.names v2)) l P X N R->bN c X N R (.Assign [.Tuple [.Attribute o1 x1 p1,.Attribute o2 x2 p2] k tp] (.Tuple [v1,v2] k' vp) pos) s
 mK:∀(c:Fx) (l:Lv) (P:PH) (s:Sh) (X:XP) (N:NP) (R:VQ) (n:Nat) (o1 i1 o2 i2 v1 v2:Expr) (p1 p2 tp vp pos:Pos) (k k':Nat),bM c->bP n c.A->St c l P s->c.aZ=c.env->[v1,v2].any isStar=false->wpS n (aK c.env.scope.names) (.mK (aC K 30 c.env.scope.names o1) (aC K 30 c.env.scope.names i1) (aC K 30 c.env.scope.names o2) (aC K 30 c.env.scope.names i2) (aC K 30 c.env.scope.names v1) (aC K 30 c.env.scope.names v2)) l P X N R->bN c X N R (.Assign [.Tuple [.Subscript o1 i1 p1,.Subscript o2 i2 p2] k tp] (.Tuple [v1,v2] k' vp) pos) s
 rW:∀(c:Fx) (l:Lv) (P:PH) (s:Sh) (X:XP) (N:NP) (R:VQ) (n:Nat) (x y g:Str) (px py tp gp cp pos:Pos) (k:Nat) (m:Expr) (body:List Stmt) (tb:U) (i j:Nat),bM c->bP n c.A->St c l P s->c.aZ=c.env->idxOf K c.env.scope.names (.Name x px)=some i->idxOf K c.env.scope.names (.Name y py)=some j->dP K c.env.scope.names g=.con (.type "enumerate")->JS n c X tb body->wpS n (aK c.env.scope.names) (.rW i j (aC K 30 c.env.scope.names m) tb) l P X N R->bN c X N R (.For (.Tuple [.Name x px,.Name y py] k tp) (.Call (.Name g gp) [m] [] cp) body [] pos) s
 qe:∀(c:Fx) (l:Lv) (P:PH) (s:Sh) (X:XP) (N:NP) (R:VQ) (n:Nat) (x g:Str) (px gp cp pos:Pos) (m:Expr) (body:List Stmt) (tb:U) (i:Nat),bM c->bP n c.A->St c l P s->c.aZ=c.env->idxOf K c.env.scope.names (.Name x px)=some i->dP K c.env.scope.names g=.con (.type "range")->JS n c X tb body->wpS n (aK c.env.scope.names) (.qe i (aC K 30 c.env.scope.names m) tb) l P X N R->bN c X N R (.For (.Name x px) (.Call (.Name g gp) [m] [] cp) body [] pos) s
 CE:∀(c:Fx) (l:Lv) (P:PH) (s:Sh) (X:XP) (N:NP) (R:VQ) (n:Nat) (body:List Stmt) (hs:List ExceptHandler) (pos:Pos),bM c->bP n c.A->St c l P s->c.aZ=c.env->wpS n (aK c.env.scope.names) (yr K c.env.scope.names body hs) l P X N R->bN c X N R (.Try body hs [] [] pos) s
section
variable{X:XP}{N:NP}{R:VQ}{n:Nat}
theorem Ml{cs:List Bool}{a b:U}:wpS n cs (.seq a b) l P X N R=wpS n cs a l P X (λl P=>wpS n cs b l P X N R) R:=rfl
theorem xE(O:bM c):interactive c.env=false:=by unfold interactive;rw[O.knd];rfl
theorem uN{ns:NS}{e:Expr}{i:Nat}(h:idxOf K ns e=some i):∃ x p,e=.Name x p:=aN h λx h _=>⟨x,iS h⟩
theorem oN{p:T->Bool}{ns:NS}{e m:Expr}(h:m8 K p ns e=some m):∃ g gp cp,e=.Call (.Name g gp) [m] [] cp/\p (dP K ns g)=true:=
 aN h λc hc h=>aN h λg hg h=>aN h λb hb h=>cK h (λq w=>(iS hg).elim λgp hg=>
  have q:=dm q
  ⟨g,gp,c.2.2.2,(qM hc).trans (by rw[hg,kT hb,w,List.isEmpty_iff.mp q.1]),q.2⟩) bB
theorem DN{es:List Expr}{q:Expr × Expr}(h:pairOf es=some q):es=[q.1,q.2]:=by
 match es,h with
 | [a,b],h=>obtain rfl:=kr h;rfl
 | [],h=>cases h
 | [_],h=>cases h
 | _::_::_::_,h=>cases h
theorem I7{e:Expr}{q:Expr × Expr}(h:M6 e=some q):∃ k p,e=.Tuple [q.1,q.2] k p:=aN h λes h e=>(Mc h).elim λk h=>h.elim λp h=>⟨k,p,h.trans (aj (λl=>Expr.Tuple l k p) (DN e))⟩
section
variable(M:yb)(O:bM c)(Rm:bP n c.A)(S:St c l P s)(he:c.aZ=c.env)
include M O Rm S he
theorem FF{es:List Expr}{v:Expr}{u:U}{k:Nat}{tp pos:Pos}(hu:qO K c.env.scope.names es v=some u)(h:wpS n (aK c.env.scope.names) u l P X N R):bN c X N R (.Assign [.Tuple es k tp] v pos) s:=by
 refine aN hu λe he1 hu=>aN hu λq hv1 hu=>?_;obtain⟨k',vp,rfl⟩:=I7 hv1;rw[DN he1];rcases Option.or_eq_some_iff.mp hu with hu|⟨-,hu⟩
 ·refine aN hu λa ha hu=>dJ hu λb hb hu=>?_
  rw[<-hu] at h;obtain⟨p1,e1⟩:=pJ ha;obtain⟨p2,e2⟩:=pJ hb;rw[e1,e2];exact cX h λk1 h1 h=>cX h λk2 h2 h=>have⟨hs,h⟩:=rO h;M.mH _ _ _ _ _ _ _ _ _ _ _ _ _ _ _ _ _ _ _ _ _ _ _ O Rm S he h1 h2 hs h
 ·refine aN hu λa ha hu=>dJ hu λb hb hu=>?_
  rw[<-hu] at h;obtain⟨p1,e1⟩:=xG ha;obtain⟨p2,e2⟩:=xG hb;rw[e1,e2];obtain⟨hs,h⟩:=rO h;exact M.mK _ _ _ _ _ _ _ _ _ _ _ _ _ _ _ _ _ _ _ _ _ O Rm S he (Bool.or_eq_false_iff.mp hs).2 h
set_option tactic.hygienic true in
theorem LS(H:dM 30)(I:pA K){t v:Expr}{pos:Pos}(h:wpS n (aK c.env.scope.names) (yp K c.env.scope.names t v) l P X N R):bN c X N R (.Assign [t] v pos) s:=by
 cases t<;>first|exact ck h|skip
 ·rename_i o x p
  exact cX h λk hk h=>L4 H I O Rm S hk h
 ·rename_i o i p
  exact Jz H O Rm S (rO h).2
 ·rename_i x p
  refine cX h λi hi h=>?_;obtain⟨hsw,h⟩:=rO h;cases hl:yF v with
  | false=>exact Pq H O Rm S he hi hl h
  | true=>exact M.MV _ _ _ _ _ _ _ _ _ _ _ _ _ O Rm S he hl (by rw[hl] at hsw;simpa using hsw) hi h
 ·rename_i es k p
  unfold yp at h;dsimp only at h;cases hu:qO K c.env.scope.names es v with
  | some u=>rw[hu] at h;exact FF M O Rm S he hu h
  | none=>rw[hu] at h;exact cX h λis hi h=>cX h λb hb h=>M.iG _ _ _ _ _ _ _ _ _ _ _ _ _ _ O Rm S he hi (by rw[hb];rfl) h
omit M he in
set_option tactic.hygienic true in
theorem LU(H:dM 30)(I:pA K){t v:Expr}{op:Operator}{pos:Pos}(h:wpS n (aK c.env.scope.names) (Dc K c.env.scope.names t op v) l P X N R):bN c X N R (.AugAssign t op v pos) s:=by
 cases op<;>first|exact ck h|skip
 exact cX h λq hq h=>cX h λk hk h=>tW hq▸Pr H I O Rm S hk h
set_option tactic.hygienic true in
theorem Js(H:dM 30){t it:Expr}{body:List Stmt}{tb:U}{pos:Pos}(hb:JS n c X tb body)(h:wpS n (aK c.env.scope.names) (De K c.env.scope.names t it tb) l P X N R):bN c X N R (.For t it body [] pos) s:=by
 cases t<;>first|exact ck h|skip
 ·rename_i x p
  refine cX h λi hi h=>?_
  ·unfold Aj at h
   cases hg:m8 K (yG "range") c.env.scope.names it with
   | some m=>rw[hg] at h;obtain⟨g,gp,cp,rfl,hg'⟩:=oN hg;exact M.qe _ _ _ _ _ _ _ _ _ _ _ _ _ _ _ _ _ _ O Rm S he hi (tu hg') hb h
   | none=>rw[hg] at h;have⟨hs,h⟩:=rO h;exact LZ H O Rm S he hi hs hb h
 ·rename_i es k tp
  match es,h with
  | [],h=>exact ck h
  | [_],h=>exact ck h
  | _::_::_::_,h=>exact ck h
  | [e1,e2],hh=>clear h;replace hh:wpS n (aK c.env.scope.names) (Ai K c.env.scope.names e1 e2 it tb) l P X N R:=hh;refine cX hh λi hi hh=>cX hh λj hj hh=>cX hh λm hg hw=>?_;obtain⟨g,gp,cp,rfl,hg'⟩:=oN hg;obtain⟨x,px,rfl⟩:=uN hi;obtain⟨y,py,rfl⟩:=uN hj;exact M.rW _ _ _ _ _ _ _ _ _ _ _ _ _ _ _ _ _ _ _ _ _ _ _ O Rm S he hi hj (tu hg') hb hw
end
set_option tactic.hygienic true in
theorem FG(H:dM 30)(HT:sd 30)(I:pA K)(M:yb):∀(f:Nat) (body:List Stmt) (c:Fx) (X:XP) (n:Nat),c.aZ=c.env->bP n c.A->JS n c X (jF K f c.env.scope.names body) body:=by
 intro f;induction f with
 | zero=>exactλq q q q q q=>λq q q q q q q q q q q h=>ck h
 | succ f ih0=>
  intro body c X n he Rm c' l P s N R e1 e2 e3 O S h;cases body with
  | nil=>exact bq ⟨l,P,S,h⟩
  | cons st r=>
  have ih:∀ b,JS n c' X (jF K f c'.env.scope.names b) b:=λb=>ih0 b c' X n (by rw[e1,e2];exact he) (by rw[e3];exact Rm);have he':c'.aZ=c'.env:=by rw[e1,e2];exact he
  have Rm':bP n c'.A:=by rw[e3];exact Rm
  rw[<-e1] at h;change wpS n (aK c'.env.scope.names) (.seq _ (jF K f c'.env.scope.names r)) l P X N R at h;rw[Ml] at h;refine wpAny_execs_cons (ak (Q:=Fl c' (λl P=>wpS n (aK c'.env.scope.names) (jF K f c'.env.scope.names r) l P X N R) R) (E:=Exc c' X) ?_ (λfl aF h₁=>?_) λq q x=>x);rotate_left
  ·cases fl with
   | next=>obtain⟨uY,aP,aH,h₁⟩:=h₁;exact ih r c' uY aP aF N R rfl rfl rfl O aH h₁
   | ret v=>exact h₁
   | brk=>exact ck h₁
   | cont=>exact ck h₁
  ·show bN c' X _ R st s
   induction st using PySem.Stmt.casesOn<;>first|exact ck h|skip
   ·rename_i v pos
    cases v with
    | some e=>exact Pw H O Rm' S h
    | none=>exact wpAny_Return_none ⟨l,P,S,h⟩
   ·rename_i ts v pos
    exact cX h λt ht h=>kT ht▸LS M O Rm' S he' H I h
   ·exact LU O Rm' S H I h
   ·rename_i t it body els pos
    cases els with
    | cons _ _=>exact ck h
    | nil=>exact Js M O Rm' S he' H (ih _) h
   ·rename_i t body els pos
    cases els with
    | cons _ _=>exact ck h
    | nil=>exact JB HT O Rm' S he' (ih _) h
   ·exact R5 H HT O Rm' S h (λP' s' S' h'=>ih _ c' _ _ _ _ _ rfl rfl rfl O S' h') λP' s' S' h'=>ih _ c' _ _ _ _ _ rfl rfl rfl O S' h'
   ·rename_i body hs els fin pos
    cases els with
    | cons _ _=>exact ck h
    | nil=>
     cases fin with
     | cons _ _=>exact ck h
     | nil=>exact M.CE _ _ _ _ _ _ _ _ _ _ _ O Rm' S he' h
   ·rename_i e pos
    have⟨hl,h⟩:=rO h;exact DV H O Rm' S (xE O) hl h
end
end
section
variable{X:XP}{Q:VQ}{N:NP}{R:VQ}{n:Nat}
theorem iR{ns:NS}{e:Expr}{r:List Expr}{is:List Nat}(h:idxs K ns (e::r)=some is):∃ x p i js,e=.Name x p/\idxOf K ns (.Name x p)=some i/\idxs K ns r=some js/\is=i::js:=aN h λi h1 h=>dJ h λjs h2 h=>(uN h1).elim λx w=>w.elim λp w=>⟨x,p,i,js,w,w▸h1,h2,h.symm⟩
theorem Dq{ns:NS}{e:Expr}{r:List Expr}{i:Nat}{js:List Nat}(h1:idxOf K ns e=some i)(h2:idxs K ns r=some js):idxs K ns (e::r)=some (i::js):=by show Option.bind _ _=_;rw[h1];exact aj (Option.map (i::·)) h2
theorem gW{ns:NS}{env:Env}:∀{es:List Expr} {is:List Nat},idxs K ns es=some is->assignEach es env=es.map λe=>(false,assign e env):=by
 intro rr;induction rr with
 | nil=>exact @λq q=>rfl
 | cons e r ih=>intro is h;obtain⟨x,p,i,js,rfl,_,h2,_⟩:=iR h;have ih:=ih h2;show(false,assign (.Name x p) env)::assignEach r env=_;rw[ih];rfl
theorem Au{ns:NS}:∀{es:List Expr} {is:List Nat},idxs K ns es=some is->es.length=is.length:=by
 intro rr;induction rr with
 | nil=>exact @λis h=>by obtain rfl:=kr h;rfl
 | cons e r ih=>intro is h;obtain⟨x,p,i,js,rfl,_,h2,rfl⟩:=iR h;rw[i9,i9,ih h2]
theorem xZ(O:bM c)(he:c.aZ=c.env):∀{es:List Expr} {is:List Nat} {us:List Va} {l:Lv} {P:PH} {s:Sh} {Q':Unit->Sh->Prop} {A:Around},idxs K c.env.scope.names es=some is->us.length=is.length->St c l P s->(∀ s',St c (sets is (us.map ab) l) (FP (aK c.env.scope.names) is P) s'->Q' ⟨⟩ s')->wpAny (MM wd) A (assignInOrder (es.map λe=>assign e c.env) us) Q' E s:=by
 intro rr;induction rr with
 | nil=>
  intro is us l P s Q' A hi hl S h;obtain rfl:=kr hi;cases us with
  | nil=>exact aq (h s S)
  | cons u r=>cases hl
 | cons e r ih=>
  intro is us l P s Q' A hi hl S h;obtain⟨x,p,i,js,rfl,h1,h2,rfl⟩:=iR hi;cases us with
  | nil=>cases hl
  | cons u us=>show wpAny (MM wd) A (do holding us (assign (.Name x p) c.env u);assignInOrder (r.map λe=>assign e c.env) us) Q' E s;refine af (ay (jm (nG S O he h1 u λs' S'=>?_)));exact ih h2 (by simpa using hl) S' h
theorem nH{v:Expr}{es:List Expr}{k:Nat}{tp:Pos}{line:Nat}{env:Env}:swapsWithSole [.Tuple es k tp] v line env=pure false:=by cases v<;>rfl
theorem Ba{env:Env}{es:List Expr}:(es.map λe=>(false,assign e env)).findIdx? (·.1)=none:=by rw[List.findIdx?_eq_none_iff];intro x hx;obtain⟨e,_,rfl⟩:=List.mem_map.mp hx;rfl
set_option tactic.hygienic true in
theorem DU(H:dM 30)(O:bM c)(he:c.aZ=c.env)(Rm:bP n c.A)(S:St c l P s){es:List Expr}{k:Nat}{tp pos:Pos}{v:Expr}{is:List Nat}(hw:swappedStores [.Tuple es k tp] v c.env=pure none)(hi:idxs K c.env.scope.names es=some is)
  (h:wpS n (aK c.env.scope.names) (.iG is (aC K 30 c.env.scope.names v)) l P X N R):bN c X N R (.Assign [.Tuple es k tp] v pos) s:=by
 refine PyProof.Rows.Assign_Tuple (cN H O Rm S h λu aP aF aH h₁=>?_) nH hw;cases u<;>first|exact ck h₁|skip
 rename_i a;obtain⟨vs,hP,h₁⟩:=J6 (F:=λvs=>vs.length=is.length/\N (sets is vs l) (FP (aK c.env.scope.names) is aP)) h₁;obtain⟨hl,hN⟩:=h₁;obtain⟨m,G,D,zO⟩:=id aH;obtain⟨us,q,e1,e2⟩:=(zO.sat.rel a _ hP).2;subst e2;rw[ef] at hl;refine jz O.hh ⟨_,e1,rfl,q,rfl⟩ ?_ ?_ λh' hx=>?_
 ·rw[gW hi,ef,Au hi];simp [hl]
 ·rw[gW hi];exact Ba
 ·rw[gW hi,ir]
  refine xZ (us:=us) O he hi hl (aH.keep' (s':={ aF with heap:=h' }) (λb o e=>hx b o (λz=>by rw[z] at e;exact absurd (fy e) (ig _)) e) rfl rfl) λs' S'=>S'.next hN
end
section
variable{X:XP}{Q:VQ}{N:NP}{R:VQ}{n:Nat}
theorem L6{v:Expr}{ns:NS}{Q:VQ}(h:bE n (aC K 30 ns v) l P X Q):isStar v=false:=by cases v<;>first|rfl|exact ck h
def RB(T:Va->Va->PH->Prop)(vs:List Va)(P:PH):Prop:=match vs with
 | [a,b]=>T a b P
 | _=>False
theorem Dh(H:dM 30)(O:bM c)(Rm:bP n c.A)(S:St c l P s){v1 v2:Expr}{k:Nat}{vp:Pos}{T:Va->Va->PH->Prop}{Q':VS}(hs:[v1,v2].any isStar=false)
  (h:bE n (aC K 30 c.env.scope.names v1) l P X λa P=>bE n (aC K 30 c.env.scope.names v2) l P X λb P=>T a b P)
  (hk:∀ u1 u2 a P' s',St c l P' s'->T (ab u1) (ab u2) P'->s'.heap.IsTuple a #[u1,u2]->Q' (.ref a) s'):wpAny (MM wd) c.A (eval (.Tuple [v1,v2] k vp) c.env) Q' (Exc c X) s:=by
 refine Tuple_ ?_;rw[iU hs];refine gH (fL (Q:=RB T) H O Rm hs S h) λus aP aF aH h₁=>?_
 match us,h₁ with
 | [],h₁=>exact ck h₁
 | [_],h₁=>exact ck h₁
 | _::_::_::_,h₁=>exact ck h₁
 | [u1,u2],h₁=>
  refine ak (I2 (Q:=λv P=>∃ a,v=.ref a/\aP a=none/\P=upd aP a (.tup [ab u1,ab u2])) aH ⟨by show(2:Nat)<big;unfold big;lia,λa ha=>⟨a,rfl,ha,rfl⟩⟩) (λv cD bA=>?_) λj j x=>x;obtain⟨gT,bU,a,hv,ha,rfl⟩:=bA;have hv':v=.ref a:=tT hv;subst hv';obtain⟨us',q,e1,e2⟩:=mQ bU (a:=a) (vs:=[ab u1,ab u2]) (by unfold upd;simp);rcases us' with _|⟨w1,_|⟨w2,_|⟨w3,rr⟩⟩⟩
  ·simp at e2
  ·simp at e2
  rotate_left
  ·simp at e2
  ·simp only[gn,List.map_nil,List.cons.injEq,and_true] at e2
   refine hk w1 w2 a aP cD (bU.forget λb o hb=>?_) ?_ ⟨_,e1,rfl,q,rfl⟩
   ·have hne:b≠a:=λq=>by rw[q,ha] at hb;cases hb
    unfold upd;simp [hne,hb]
   ·rw[e2.1,e2.2];exact h₁
theorem zR{o:Expr}{x:Str}{p:Pos}{A:Around}{env:Env}{v:Va}{Q':Unit->Sh->Prop}{M:Model}(h:wpAny M A (eval o env) (λov aF=>wpAny M A (setAttr ov x v) Q' E aF) E s):wpAny M A (assign (.Attribute o x p) env v) Q' E s:=by rw[PySem.assign_Attribute];refine af (ay (ak h (λov aF h₁=>af (b9 (af (ay (ak h₁ (λ_ cD bA=>?_) λq q x=>x))))) λq q x=>x));intro Γ p hΓ;rw[Sem.wp_release];exact bA
theorem kC{α:Type}{c:Prop}[Decidable c]{a b:α}(h:b=a):(if c then a else b)=a:=by rw[h,ite_self]
theorem L8{o1 o2:Expr}{x1 x2:Str}{p1 p2 tp vp:Pos}{k k':Nat}{v1 v2:Expr}{env:Env}:swappedStores [.Tuple [.Attribute o1 x1 p1,.Attribute o2 x2 p2] k tp] (.Tuple [v1,v2] k' vp) env=pure none:=kC (kC (ai rfl))
theorem Jy(H:dM 30)(I:pA K)(O:bM c)(Rm:bP n c.A)(S:St c l P s){o1 o2 v1 v2:Expr}{x1 x2:Str}{p1 p2 tp vp pos:Pos}{k k' k1 k2:Nat}(h1:lO.findIdx? (·==x1)=some k1)(h2:lO.findIdx? (·==x2)=some k2)(hs:[v1,v2].any isStar=false)
  (h:wpS n (aK c.env.scope.names) (.mH (aC K 30 c.env.scope.names o1) k1 (aC K 30 c.env.scope.names o2) k2 (aC K 30 c.env.scope.names v1) (aC K 30 c.env.scope.names v2)) l P X N R):bN c X N R (.Assign [.Tuple [.Attribute o1 x1 p1,.Attribute o2 x2 p2] k tp] (.Tuple [v1,v2] k' vp) pos) s:=by
 refine PyProof.Rows.Assign_Tuple (Dh H O Rm S hs h λu1 u2 a aP aF aH h₁ ht=>?_) nH L8;refine jz O.hh ht rfl rfl λh' hx=>?_;have bU:St c l aP { aF with heap:=h' }:=aH.keep' (λb o e=>hx b o (λz=>by rw[z] at e;exact absurd (fy e) (ig _)) e) rfl rfl;show wpAny (MM wd) c.A (do holding [u2] (assign (.Attribute o1 x1 p1) c.env u1);assignInOrder [assign (.Attribute o2 x2 p2) c.env] [u2]) _ _ _;refine af (ay (zR (cN H O Rm bU h₁ λov1 qF jC dS bY=>jM (N:=λP=>bE n (aC K 30 c.env.scope.names o2) l P X λu P=>(match u with
   | .ref b=>vR b k2 (ab u2) P (N l)
   | _=>False)) I dS O (qi h1) bY λNt zq lE sy=>?_)))
 show wpAny (MM wd) c.A (do holding [] (assign (.Attribute o2 x2 p2) c.env u2);assignInOrder [] []) _ _ _;refine af (ay (zR (cN H O Rm lE sy λov2 Sy FY Nu Ob=>jM (N:=N l) I Nu O (qi h2) Ob λSz R6 D8 Oc=>aq (D8.next Oc))))
end
section
variable{X:XP}{Q:VQ}{N:NP}{R:VQ}{n:Nat}
theorem CW{o i:Expr}{p:Pos}{A:Around}{env:Env}{v:Va}{Q':Unit->Sh->Prop}{M:Model}(h:wpAny M A (eval o env) (λov aF=>wpAny M A (eval i env) (λiv cD=>wpAny M A (setItem ov iv v) Q' E cD) E aF) E s):wpAny M A (assign (.Subscript o i p) env v) Q' E s:=by rw[PySem.assign_Subscript];refine af (ay (ak h (λov aF h₁=>af (ay (ak h₁ (λiv cD bA=>af (b9 (af (ay (ak bA (λ_ jC bY=>?_) λq q x=>x))))) λq q x=>x))) λq q x=>x));intro Γ p hΓ;rw[Sem.wp_release];exact bY
theorem Py{o1 o2 i1 i2:Expr}{p1 p2 tp vp:Pos}{k k':Nat}{v1 v2:Expr}{env:Env}:swappedStores [.Tuple [.Subscript o1 i1 p1,.Subscript o2 i2 p2] k tp] (.Tuple [v1,v2] k' vp) env=pure none:=kC (kC (ai rfl))
theorem FL(H:dM 30)(O:bM c)(Rm:bP n c.A)(S:St c l P s){o1 o2 i1 i2 v1 v2:Expr}{p1 p2 tp vp pos:Pos}{k k':Nat}(hs:[v1,v2].any isStar=false)
  (h:wpS n (aK c.env.scope.names) (.mK (aC K 30 c.env.scope.names o1) (aC K 30 c.env.scope.names i1) (aC K 30 c.env.scope.names o2) (aC K 30 c.env.scope.names i2) (aC K 30 c.env.scope.names v1) (aC K 30 c.env.scope.names v2)) l P X N R):bN c X N R (.Assign [.Tuple [.Subscript o1 i1 p1,.Subscript o2 i2 p2] k tp] (.Tuple [v1,v2] k' vp) pos) s:=by refine PyProof.Rows.Assign_Tuple (Dh H O Rm S hs h λu1 u2 a aP aF aH h₁ ht=>?_) nH Py;refine jz O.hh ht rfl rfl λh' hx=>?_;have bU:St c l aP { aF with heap:=h' }:=aH.keep' (λb o e=>hx b o (λz=>by rw[z] at e;exact absurd (fy e) (ig _)) e) rfl rfl;show wpAny (MM wd) c.A (do holding [u2] (assign (.Subscript o1 i1 p1) c.env u1);assignInOrder [assign (.Subscript o2 i2 p2) c.env] [u2]) _ _ _;refine af (ay (CW (cN H O Rm bU h₁ λov1 qF jC dS bY=>cN H O Rm dS bY λiv1 Ub UK Qc QT=>oV Qc O QT λNt zq lE sy=>?_)));show wpAny (MM wd) c.A (do holding [] (assign (.Subscript o2 i2 p2) c.env u2);assignInOrder [] []) _ _ _;refine af (ay (CW (cN H O Rm lE sy λov2 Sy FY Nu Ob=>cN H O Rm Nu Ob λiv2 Uc UL Qd QU=>oV Qd O QU λSz R6 D8 Oc=>aq (D8.next Oc))))
end
section
variable{X X':XP}{Q Q':VQ}{n n':Nat}{f:Ad}{vs:List Va}
theorem bP.mono{A:Around}(R:bP n' A)(h:n<=n'):bP n A:=by obtain⟨h1,h2⟩:=R;exact⟨by lia,by lia⟩
theorem Calls.mono(h:Calls n f vs P X Q)(hn:n<=n')(hX:∀ e P,X e P->X' e P)(hQ:∀ v P,Q v P->Q' v P):Calls n' f vs P X' Q':=by
 intro c l s args O Rm S hv;refine codeAny_mono (h c l s args O (Rm.mono hn) S hv) λr s' hr=>?_;rcases r with e|fl
 ·exact Exc.mono hr hX
 ·cases fl with
  | ret v=>obtain⟨P',S',q⟩:=hr;exact⟨P',S',hQ _ _ q⟩
  | next=>exact ck hr
  | brk=>exact ck hr
  | cont=>exact ck hr
theorem Fq{i:Nat}{v:Va}:∀{is:List Nat} {vs:List Va} {l:Lv},vs.length=is.length->sets (is++[i]) (vs++[v]) l=(sets is vs l).set i (some v):=by
 intro is;induction is with
 | nil=>intro vs l h;obtain rfl:=kj h;rfl
 | cons j is ih=>intro vs l h;obtain⟨w,ws,rfl⟩:=jw h;exact ih (Nat.succ.inj h)
theorem Jl{i:Nat}{v:Va}:∀{is:List Nat} {vs:List Va} {l:Lv},i∉is->sets is vs (l.set i (some v))=(sets is vs l).set i (some v):=by
 intro is;induction is with
 | nil=>intro vs l h;rfl
 | cons j is ih=>
  intro vs l h;rcases vs with _|⟨u,vs⟩
  ·rfl
  ·exact(aj (sets is vs) (List.set_comm _ _ λq:i=j=>h (q▸.head _))).trans (ih λq=>h (.tail _ q))
theorem Jm:∀{is:List Nat} {vs:List Va} {l:Lv},vs.length=is.length->is.Nodup->sets is.reverse vs.reverse l=sets is vs l:=by
 intro is;induction is with
 | nil=>intro vs l h _;obtain rfl:=kj h;rfl
 | cons i is ih=>intro vs l h nd;obtain⟨w,ws,rfl⟩:=jw h;have n:=dj nd;rw[List.reverse_cons,List.reverse_cons,Fq (by rw[gh,gh];exact Nat.succ.inj h),ih (Nat.succ.inj h) n.2];exact(Jl n.1).symm
end
section
variable{X:XP}{Q:VQ}{N:NP}{R:VQ}{n:Nat}
def UB(o:Op PO)(F:List Va->Prop):Prop:=match o with
 | some (.tup vs)=>F vs
 | _=>False
theorem Lj{o:Op PO}{F:List Va->Prop}(h:UB o F):∃ vs,o=some (.tup vs)/\F vs:=by
 obtain _|o:=o
 ·exact ck h
 ·cases o<;>first|exact ck h|exact⟨_,rfl,h⟩
abbrev K8(c:Fx)(is:List Nat)(xs:List Str):Prop:=is.map (λi=>c.env.scope.names[i]?)=xs.map λx=>some (x,NameKind.local)
theorem FQ:∀{is:List Nat} {xs:List Str} {P:PH},K8 c is xs->FP (aK c.env.scope.names) is P=P:=by
 intro is;induction is with
 | nil=>exactλ_=>rfl
 | cons i is ih=>
  intro xs P h;cases xs with
  | nil=>cases h
  | cons x xs=>have h:=List.cons.inj h;show FP _ is (jV _ i P)=P;rw[ru h.1];exact ih h.2
theorem JC{Q:Unit->Sh->Prop}(O:bM c):∀{xs:List Str} {is:List Nat} {ws:List Va} {l:Lv} {s:Sh},K8 c is xs->ws.length=xs.length->St c l P s->(∀ s',St c (sets is (ws.map ab) l) P s'->Q ⟨⟩ s')->wpAny (MM wd) c.A (PySem.assignInOrder (xs.map λn=>bindName c.env n) ws) Q E s:=by
 intro xs;induction xs with
 | nil=>intro is ws l s hn hl S h;obtain rfl:=kj hl;obtain rfl:=List.map_eq_nil_iff.mp hn;exact aq (h _ S)
 | cons x xs ih=>intro is ws l s hn hl S h;obtain⟨i,is,rfl,h1,h2⟩:=List.map_eq_cons_iff.mp hn;obtain⟨w,ws,rfl⟩:=jw hl;show wpAny (MM wd) c.A (do holding ws (bindName c.env x w);PySem.assignInOrder (xs.map λn=>bindName c.env n) ws) _ _ _;exact af (ay (PyProof.Rows.bindName_ (S.store O h1 w λjC dS=>ih h2 (Nat.succ.inj hl) dS h)))
theorem FJ(H:dM 30)(O:bM c)(Rm:bP n c.A)(S:St c l P s){es:List Expr}{xs:List Str}{is:List Nat}{k:Nat}{tp pos:Pos}{v:Expr}(hw:swappedStores [.Tuple es k tp] v c.env=pure (some xs))
  (hn:K8 c is xs) (hd:is.Nodup)
  (h:wpS n (aK c.env.scope.names) (.iG is (aC K 30 c.env.scope.names v)) l P X N R):bN c X N R (.Assign [.Tuple es k tp] v pos) s:=by
 refine PyProof.Rows.Assign_Tuple_swapped (names:=xs) (cN H O Rm S h λu aP aF aH h₁=>?_) nH hw;obtain⟨a,rfl,h₁⟩:=cC (F:=λa=>UB (aP a) λvs=>vs.length=is.length/\N (sets is vs l) (FP (aK c.env.scope.names) is aP)) h₁;obtain⟨_,hP,hl,hN⟩:=Lj h₁;obtain⟨us,z,e1,rfl⟩:=mQ aH hP;have l2:is.length=xs.length:=by simpa using aj List.length hn
 rw[ef] at hl;rw[FQ hn] at hN;rw[l2.symm.trans hl.symm];refine PyProof.Rows.unpackItems_tuple (items:=us.toArray) O.hh ⟨_,e1,rfl,z,rfl⟩ λh' hx'=>?_;refine JC O (is:=is.reverse) (xs:=xs.reverse) (by rw[K8,jl,jl,hn]) (by rw[gh,gh,<-l2,hl]) (aH.keep' (s':={ aF with heap:=h' }) (λb o e=>hx' b o (λz=>by rw[z] at e;exact absurd (fy e) (ig _)) e) rfl rfl) λs' S'=>S'.next ?_;rw[jl,Jm (by rw[ef];exact hl) hd];exact hN
end
section
variable{X:XP}{Q:VQ}{N:NP}{R:VQ}{n:Nat}
noncomputable abbrev oz(env:Env)(es:List Expr)(line:Nat):List Str:=es.filterMap λ
  | .Name id pos=>if env.kindOf id==some .local&&pos.line==line then some id else none
  | _=>none
theorem AO{env:Env}{x:Str}{p:Pos}{r:List Expr}{line:Nat}:oz env (.Name x p::r) line=if (env.kindOf x==some .local&&p.line==line)=true then x::oz env r line else oz env r line:=by
 by_cases q:(env.kindOf x==some .local&&p.line==line)=true
 ·rw[ai q];exact List.filterMap_cons_some (ai q)
 ·rw[aa q];exact List.filterMap_cons_none (aa q)
theorem II{env:Env}(nd:(env.scope.names.map (·.1)).Nodup){line:Nat}:∀{es:List Expr} {is:List Nat},idxs K env.scope.names es=some is->is.any (λi=>Dt env.scope.names[i]?)=true->(oz env es line).length<es.length:=by
 intro rr;induction rr with
 | nil=>exact @λis h hc=>by rw[<-kr h] at hc;exact gP hc
 | cons e r ih=>
  intro is h hc;obtain⟨x,p,i,js,rfl,h1,h2,rfl⟩:=iR h;have le:(oz env r line).length<=r.length:=List.length_filterMap_le _ _;rw[AO];rcases uO h1 with q|q
  ·rw[jo,q] at hc
   have ih:=ih h2 hc;by_cases w:(env.kindOf x==some .local&&p.line==line)=true
   ·rw[ai w];exact Nat.succ_lt_succ ih
   ·rw[aa w];exact Nat.lt_succ_of_lt ih
  ·have hk:env.kindOf x=some .cell:=aT nd q
   rw[aa (by rw[hk];exact Bool.false_ne_true)];exact j6 le
theorem K9{env:Env}(nd:(env.scope.names.map (·.1)).Nodup){line:Nat}:∀{es:List Expr} {is:List Nat},idxs K env.scope.names es=some is->is.all (λi=>EE env.scope.names[i]?)=true->es.all (λe=>mE e==line)=true->∃ xs:List Str,oz env es line=xs/\xs.length=es.length/\is.map (λi=>env.scope.names[i]?)=xs.map λx=>some (x,.local):=by
 intro rr;induction rr with
 | nil=>exact @λis h hc hl=>⟨[],rfl,rfl,by rw[<-kr h];rfl⟩
 | cons e r ih=>
  intro is h hc hl;obtain⟨x,p,i,js,rfl,h1,h2,rfl⟩:=iR h;rw[List.all_cons,e9] at hc hl;obtain⟨xs,e1,e2,e3⟩:=ih h2 hc.2 hl.2
  have q:env.scope.names[i]?=some (x,.local):=by
   rcases uO h1 with q|q
   ·exact q
   ·have hc:=hc.1;rw[q] at hc;exact gP hc
  have hk:env.kindOf x=some .local:=aT nd q;refine⟨x::xs,?_,by simp [e2],by simp [q,e3]⟩;have hp:(p.line==line)=true:=hl.1;rw[AO,ai (by rw[hk,hp];rfl),e1]
theorem OW{v:Expr}{es:List Expr}{k:Nat}{tp:Pos}{env:Env}(h:∀ vs k' p,v≠.Tuple vs k' p):swappedStores [.Tuple es k tp] v env=pure none:=by unfold swappedStores;cases v<;>first|rfl|exact absurd rfl (h _ _ _)
theorem ES{es:List Expr}{is:List Nat}{ns:NS}(h:idxs K ns es=some is):(es.head?.map (·.pos.line)).getD 0=(es.head?.map mE).getD 0:=by
 cases es with
 | nil=>rfl
 | cons e r=>obtain⟨x,p,i,js,rfl,_⟩:=iR h;rfl
theorem Ma{env:Env}(nd:(env.scope.names.map (·.1)).Nodup){es vs:List Expr}{k k':Nat}{tp vp:Pos}{is:List Nat}(hi:idxs K env.scope.names es=some is)(hc:is.any (λi=>Dt env.scope.names[i]?)=true):
  swappedStores [.Tuple es k tp] (.Tuple vs k' vp) env=pure none:=kC (kC (ai (Bool.or_eq_true_iff.mpr (.inl (bne_iff_ne.mpr (gq (II nd hi hc)))))))
theorem KA{l:List Str}(h:l.Nodup):l.eraseDups=l:=by
 induction l with
 | nil=>rfl
 | cons a l ih=>have n:=dj h;rw[List.eraseDups_cons,List.filter_eq_self.mpr λb hb=>by simpa using λq:b=a=>n.1 (q▸hb),ih n.2]
theorem Rq{nms:NS}(nd:(nms.map (·.1)).Nodup):∀{is:List Nat} {xs:List Str},is.map (λi=>nms[i]?)=xs.map (λx=>some (x,NameKind.local))->is.Nodup->xs.Nodup:=by
 intro is;induction is with
 | nil=>intro xs h hd;rw[List.map_eq_nil_iff.mp h.symm];exact .nil
 | cons i is ih=>
  intro xs h hd;cases xs with
  | nil=>exact .nil
  | cons x xs=>have h:=List.cons.inj h;have d:=dj hd;refine dh ⟨λq=>?_,ih h.2 d.2⟩;have m:some (x,NameKind.local)∈is.map λi=>nms[i]?:=h.2▸jx (f:=λx=>some (x,NameKind.local)) q;obtain⟨j,hj,e⟩:=List.mem_map.mp m;exact d.1 (pX nd h.1 e▸hj)
theorem GA(vs:List Expr):vs.any isStar=vs.any λ|.Starred ..=>true|_=>false:=aj _ (funext λe=>by cases e<;>rfl)
theorem Mb{env:Env}(nd:(env.scope.names.map (·.1)).Nodup)(hk:env.scope.kind=.function){es vs:List Expr}{k k':Nat}{tp vp:Pos}{is:List Nat}(hi:idxs K env.scope.names es=some is)
  (h0:vs.length=es.length) (hs:vs.any isStar=false) (h1:es.length=2\/es.length=3) (hd:is.Nodup) (hc:is.all (λi=>EE env.scope.names[i]?)=true)
  (hl:es.all (λe=>mE e==(es.head?.map mE).getD 0)=true) (hf:vs.all (foldedForSure 8)=false) (ha:vs.all (constantsAlone 8)=false):
  ∃ xs:List Str,swappedStores [.Tuple es k tp] (.Tuple vs k' vp) env=pure (some xs)/\xs.length=es.length/\is.map (λi=>env.scope.names[i]?)=xs.map λx=>some (x,.local):=by
 obtain⟨xs,e1,e2,e3⟩:=K9 nd hi hc hl;have hb:env.blockKind=.function:=by unfold Env.blockKind;rw[hk];rfl
 have hx:xs.eraseDups.length=xs.length:=aj _ (KA (Rq nd e3 hd));have e:oz env es ((es.head?.map (·.pos.line)).getD 0)=xs:=(aj _ (ES hi)).trans e1;refine⟨xs,(aa ?_).trans ((aa λq=>absurd (hs.symm.trans ((GA vs).trans q)) ()).trans ((aa λq=>?_).trans ((aa λq=>absurd (hf.symm.trans q) ()).trans ((aa λq=>absurd (ha.symm.trans q) ()).trans (aj (λz=>pure (some z)) e))))),e2,e3⟩
 ·rw[hb,h0];rcases h1 with h1|h1<;>rw[h1]<;>exact Bool.false_ne_true
 ·have q:((oz env es ((es.head?.map (·.pos.line)).getD 0)).length !=es.length||(oz env es ((es.head?.map (·.pos.line)).getD 0)).eraseDups.length !=(oz env es ((es.head?.map (·.pos.line)).getD 0)).length)=true:=q
  rw[e,hx,e2] at q;exact(Bool.or_eq_true_iff.mp q).elim (λq=>bne_iff_ne.mp q rfl) λq=>bne_iff_ne.mp q rfl
theorem Bd{ns:NS}{es vs:List Expr}{is:List Nat}{k':Nat}{vp:Pos}(h:rE ns es is (.Tuple vs k' vp)=some true):vs.length=es.length/\vs.any isStar=false/\(es.length=2\/es.length=3)/\is.Nodup/\is.all (λi=>EE ns[i]?)=true/\es.all (λe=>mE e==(es.head?.map mE).getD 0)=true/\vs.all (foldedForSure 8)=false/\vs.all (constantsAlone 8)=false:=
 have h:=wu h
 cK h.2 (λ_ e=>gP e) λh'=>(λh2=>by have h1:=h.1;simp only[e9,az,i6,j4,decide_eq_true_eq] at h1 h2;exact⟨h1.1,h1.2,h2.1.1.1.1.1,h2.1.1.1.1.2,h2.1.1.1.2,h2.1.1.2,h2.1.2,h2.2⟩) (wu h').1
theorem zv{ns:NS}{es vs:List Expr}{is:List Nat}{k':Nat}{vp:Pos}(h:rE ns es is (.Tuple vs k' vp)=some false):is.any (λi=>Dt ns[i]?)=true:=cK (wu h).2 (λq _=>q) λh'=>lz (kr (wu h').2)
theorem Cz(H:dM 30)(O:bM c)(he:c.aZ=c.env)(Rm:bP n c.A)(S:St c l P s){es:List Expr}{k:Nat}{tp pos:Pos}{v:Expr}{is:List Nat}(hi:idxs K c.env.scope.names es=some is)(hb:(rE c.env.scope.names es is v).isSome=true)
  (h:wpS n (aK c.env.scope.names) (.iG is (aC K 30 c.env.scope.names v)) l P X N R):bN c X N R (.Assign [.Tuple es k tp] v pos) s:=by
 by_cases ht:∃ vs k' p,v=.Tuple vs k' p
 ·obtain⟨vs,k',vp,rfl⟩:=ht
  cases q:rE c.env.scope.names es is (.Tuple vs k' vp) with
  | none=>rw[q] at hb;cases hb
  | some b=>
   cases b with
   | false=>exact DU H O he Rm S (Ma O.nd hi (zv q)) hi h
   | true=>obtain⟨h0,hs,h1,hd,hc,hl,hf,ha⟩:=Bd q;obtain⟨xs,e1,e2,e3⟩:=Mb (k:=k) (k':=k') (tp:=tp) (vp:=vp) O.nd O.knd hi h0 hs h1 hd hc hl hf ha;exact FJ H O Rm S e1 e3 hd h
 ·exact DU H O he Rm S (OW λvs k' p q=>ht ⟨vs,k',p,q⟩) hi h
end
section
section
variable{X:XP}{Q:VQ}{N:NP}{R:VQ}{n:Nat}{I:Ad}{p p':Obj->Prop}
theorem An(H:dM 30)(O:bM c)(Rm:bP n c.A)(S:St c l P s){g:Str}{T:String}{a:Expr}{gp cp:Pos}{R':VQ}{Q':VS}(hv:dP K c.env.scope.names g=.con (.type T))
  (h:bE n (aC K 30 c.env.scope.names a) l P X R') (k:∀ v P' s',St c l P' s'->R' (ab v) P'->wpAny (MM wd) c.A (call (.type T) [v]) Q' (Exc c X) s'):
  wpAny (MM wd) c.A (eval (.Call (.Name g gp) [a] [] cp) c.env) Q' (Exc c X) s:=by
 have hs:[a].any isStar=false:=by rw[jo,List.any_nil,Bool.or_false];exact L6 h
 refine Call_ (bG (mO (n:=0) (X:=X) (Q:=λu P'=>u=.type T/\P'=P) S O (by rw[hv];exact⟨rfl,rfl⟩)) λf aP aF aH h₁=>?_);obtain⟨e,rfl⟩:=h₁;have:=sQ e;subst this;refine bZ (G:=λq=>True) hs tw (g8 (bG (H a c l aP aF X _ n O Rm aH h) λv aP aF aH h₁=>?_));exact g7 ⟨trivial,k v aP aF aH h₁⟩
def oY(k i:Nat):Obj->Prop:=λo=>o={ cls:=.type "range_iterator",dict:=none,data:=.fields #[rawInt (i:Int),rawInt ((k:Int)-(i:Int)),rawInt 1],slots:=#[] }
theorem nB{k i:Nat}:nL (oY k i):=nh λo h=>⟨_,aj Obj.data h⟩
inductive SA(c:Fx)(I:Ad)(k:Nat)(step:Nat->Lv->PH->(NP)->Prop)(N:NP)(r:Nat)(s:Sh):Prop
 | mk (i:Nat) (l:Lv) (P:PH) (hr:r=k-i) (hi:i<=k) (S:St (pinned c I (oY k i)) l P s) (h:xK step i (k-i) l P N)
theorem A7{k:Nat}{target:Expr}{body:List Stmt}{step:Nat->Lv->PH->(NP)->Prop}(O:bM c)(he:c.aZ=c.env)(hn:c.F I=none)
  (hb:∀(i:Nat) t l P s (k':NP),St (pinned c I (oY k (i+1))) l P s->step i l P k'->wpAny (MM wd) c.A (letOwnedTupleGo target (.ref I) (.int (i:Int) t)) (λ_ aF=>wpAny (MM wd) c.A (assign target c.env (.int (i:Int) t)) (λ_ cD=>wpAny (MM wd) c.A (execs body c.env) (Fl (pinned c I (oY k (i+1))) k' R) (Exc (pinned c I (oY k (i+1))) X) cD) (Exc (pinned c I (oY k (i+1))) X) aF) (Exc (pinned c I (oY k (i+1))) X) s)
  (S:St (pinned c I (oY k 0)) l P s) (h:xK step 0 k l P N):
  codeAny (MM wd) c.A (.forLoop target (.ref I) body [] c.env) (λr s'=>match r with|.ok f=>Fl c N R f s'|.error e=>cameBackBy (MM wd) c.A c.env (Exc c X) e s') s:=by
 have ex:∀{i:Nat} {ev:Va} {s:Sh},Exc (pinned c I (oY k i)) X ev s->notedBy (MM wd) c.A c.env (cameBackBy (MM wd) c.A c.env (Exc c X)) ev s:=λh=>(h.jO nB hn).loop O he;refine codeAny_forLoop_any (SA c I k step N) ?_ k ⟨0,l,P,rfl,j5 _,S,h⟩
 rintro r s ⟨i,l,P,rfl,hi,⟨m,G,D,S⟩,h⟩
 have hI:=S.kE;obtain⟨_,ob,eo,po⟩:=S.sat.hid _ _ hI;have hit:IsRangeIter s.heap I (i:Int) ((k:Int)-(i:Int)) 1:=by rw[show ob=_ from po] at eo;exact eo
 rcases Nat.lt_or_ge i k with hlt|hge
 ·rw[show k-i=(k-(i+1))+1 by lia] at h
  refine wpAny_pyNext_range_item hit (by lia) λh' hi' sb=>?_
  have aH:St (pinned c I (oY k (i+1))) l P { s with heap:=h',toks:=s.toks+1 }:=by
   refine St.xU ⟨m,G,D,S⟩ nB (λb o hb e=>(sb.2 b hb).trans e) ⟨gi (tO sb).symm,rfl,rfl⟩ ⟨_,hi',?_⟩;show(_:Obj)=_;have e1:((i:Int)+1)=((i+1:Nat):Int):=by lia
   have e2:((k:Int)-(i:Int)-1)=((k:Int)-((i+1:Nat):Int)):=by lia
   rw[e1,e2]
  refine ak (hb i _ l P _ _ aH h) (λ_ aF h₁=>?_) λq q x=>ex x;refine ak h₁ (λ_ cD bA=>?_) λq q x=>ex x;refine ak bA (λf jC bY=>?_) λq q x=>ex x;cases f with
  | next=>obtain⟨l',P',S',h'⟩:=bY;exact⟨k-(i+1),by lia,i+1,l',P',rfl,hlt,S',h'⟩
  | cont=>exact ck bY
  | brk=>exact ck bY
  | ret v=>obtain⟨l',P',S',h'⟩:=bY;exact⟨l',P',S'.jO nB hn,h'⟩
 ·have hie:i=k:=Nat.le_antisymm hi hge
  subst hie;rw[Nat.sub_self] at h;exact wpAny_pyNext_range_end O.hh hit (by lia) λh' xb=>bq ⟨l,P,S.drop nB hn xb,h⟩
set_option tactic.hygienic true in
theorem Jx(H:dM 30)(O:bM c)(Rm:bP n c.A)(S:St c l P s)(he:c.aZ=c.env){x g:Str}{px gp cp pos:Pos}{m:Expr}{body:List Stmt}{tb:U}{i:Nat}(hi:idxOf K c.env.scope.names (.Name x px)=some i)(hg:dP K c.env.scope.names g=.con (.type "range"))(hb:JS n c X tb body)
  (h:wpS n (aK c.env.scope.names) (.qe i (aC K 30 c.env.scope.names m) tb) l P X N R):bN c X N R (.For (.Name x px) (.Call (.Name g gp) [m] [] cp) body [] pos) s:=by
 refine wpAny_For (An H O Rm S hg h λv aP aF aH h₁=>?_) (kQ rfl _);cases v<;>first|exact ck h₁|skip
 rename_i k t;replace h₁:(0<=k/\k<big)/\xK (λq l P k'=>wpS n (aK c.env.scope.names) tb (l.set i (some (.int q 0))) (jV (aK c.env.scope.names) i P) X k' R) 0 k.toNat l aP N:=h₁;have h0:=h₁.1.1;have h1:=h₁.1.2;replace h₁:=h₁.2;unfold big at h1;refine call_range_1 (wpAny_pyIter_range (IsRange.new ..) (small_one () () (by lia) (by lia)) ?_);have hsz:Builtin.Range.rangeSize 0 k 1=(k.toNat:Int):=by rw[rangeSize_one];split<;>lia
 generalize hob:({ cls:=.type "range",data:=.fields #[.int 0 aF.toks,.int k t,.int 1 (aF.toks+1)] }:Obj)=rob;have bU:St c l aP { aF with heap:=aF.heap.push rob,toks:=aF.toks+1+1 }:=aH.keep' (λb o e=>ek _ e) rfl rfl;have hn:=(O.pin (p:=oY k.toNat 0) bU (f7 _)).2;refine A7 (step:=λq l P k'=>wpS n (aK c.env.scope.names) tb (l.set i (some (.int q 0))) (jV (aK c.env.scope.names) i P) X k' R) O he hn (λq t uY Ua UJ k' S' h'=>aq ?_) (bU.pin (p:=oY k.toNat 0) (λb o e=>ek _ e) ⟨by simp [Heap.push],rfl,rfl⟩ (f7 _) ⟨_,fj _ rfl,?_⟩) h₁
 ·have O':=(O.pin (p:=oY k.toNat (q+1)) bU (f7 _)).1
  exact jm (nG (c:=pinned c _ (oY k.toNat (q+1))) S' O' he hi (.int (q:Int) t) λs' S''=>hb (pinned c _ (oY k.toNat (q+1))) _ _ _ _ _ rfl rfl rfl O' S'' h')
 ·show(_:Obj)=_
  rw[hsz];simp
theorem jL{I J:Ad}{p q:Obj->Prop}(h:I≠J):pinned (pinned c I p) J q=pinned (pinned c J q) I p:=by
 have e:cH (cH c.F I p) J q=cH (cH c.F J q) I p:=by
  funext b;unfold cH;by_cases h1:b=I<;>by_cases h2:b=J
  ·rw[h1] at h2;exact absurd h2 h
  ·simp [h1,h]
  ·simp [h2,gz h]
  ·simp [h1,h2]
 show({ c with F:=cH (cH c.F I p) J q }:Fx)={ c with F:=cH (cH c.F J q) I p };rw[e]
def B3(it:Ad)(i:Nat):Obj->Prop:=λo=>∃ old,o={ cls:=.type "enumerate",dict:=none,data:=.fields #[.none,.bool false,.ref it,rawInt (i:Int),.none,old],slots:=#[] }
theorem m9{it:Ad}{i:Nat}:nL (B3 it i):=nh λo ⟨_,h⟩=>⟨_,aj Obj.data h⟩
theorem nj{a:Ad}{i:Nat}:nL (qT a i):=nh λo h=>⟨_,h.2⟩
noncomputable abbrev lJ(c:Fx)(it e a:Ad)(i:Nat):Fx:=pinned (pinned c it (qT a i)) e (B3 it i)
set_option tactic.hygienic true in
theorem St.Pe{it e a:Ad}{i:Nat}{oe:Obj}(hne:it≠e)(S:St (lJ c it e a i) l P s)(k:∀ b o,b≠it->b≠e->s.heap.get? b=some o->s'.heap.get? b=some o)(t:Step s s')(h1:∃ o,s'.heap.get? it=some o/\qT a (i+1) o)(h2:s'.heap.get? e=some oe)(hoe:B3 it (i+1) oe):St (lJ c it e a (i+1)) l P s':=by
 obtain⟨m,G,D,S'⟩:=id S;obtain⟨_,o0,e0,_⟩:=S'.sat.hid _ _ S'.kE;have hf:oe.isFreed=false:=by obtain⟨old,rfl⟩:=hoe;rfl
 have aH:St (pinned (pinned c it (qT a i)) e (B3 it (i+1))) l P { s with heap:=s.heap.update e λq=>oe }:=S.xU m9 (λb o hb x=>(Heap.get?_update_ne _ _ _ _ hb).trans x) ⟨by simp [Heap.update],rfl,rfl⟩ ⟨oe,g9 _ e0 hf,hoe⟩;rw[jL hne] at aH;show St (pinned (pinned c it (qT a (i+1))) e (B3 it (i+1))) l P s';rw[jL hne];refine aH.xU nj (λb o hb x=>?_) ⟨?_,t.g,t.o⟩ h1
 ·by_cases hbe:b=e
  ·subst hbe
   rw[show({ s with heap:=s.heap.update b λq=>oe }:Sh).heap.get? b=some oe from g9 _ e0 hf] at x;obtain rfl:=kr x;exact h2
  ·refine k b o hb hbe ?_
   exact(Heap.get?_update_ne s.heap b e (λq=>oe) hbe).symm.trans x
 ·show(s.heap.update e λq=>oe).objs.size<=_
  rw[show(s.heap.update e λq=>oe).objs.size=s.heap.objs.size by simp [Heap.update]];exact t.le
theorem PF{it e a:Ad}{i:Nat}(hne:it≠e)(h1:c.F it=none)(h2:c.F e=none)(S:St (lJ c it e a i) l P s):St c l P s:=(S.jO m9 (by show cH c.F it _ e=none;rw[aE (gz hne)];exact h2)).jO nj h1
theorem Tf{it e a:Ad}{i:Nat}{ev:Va}(hne:it≠e)(h1:c.F it=none)(h2:c.F e=none)(h:Exc (lJ c it e a i) X ev s):Exc c X ev s:=(h.jO m9 (by show cH c.F it _ e=none;rw[aE (gz hne)];exact h2)).jO nj h1
def pV(step:Nat->Va->Lv->PH->(NP)->Prop)(vs:List Va)(v:Va)(l:Lv)(P:PH)(k:NP):Prop:=match v with
 | .ref q=>step q ((vs[q]?).getD .none) l P k
 | _=>False
inductive Sw(c:Fx)(it e a:Ad)(t:Nat × Nat)(vs:List Va)(step:Nat->Va->Lv->PH->(NP)->Prop)(N:NP)(k:Nat)(s:Sh):Prop
 | mk (i:Nat) (l:Lv) (P:PH) (hk:k=vs.length-i) (hi:i<=vs.length) (S:St (lJ c it e a i) l P s) (hP:P a=some (.list t vs)) (h:cL (pV step vs) (λP'=>P' a=some (.list t vs)) (((List.range vs.length).map Value.ref).drop i) l P N)
theorem B4{it e a:Ad}{t:Nat × Nat}{vs:List Va}{es:List Expr}{kk:Nat}{tp:Pos}{body:List Stmt}{i j:Nat}{step:Nat->Va->Lv->PH->(NP)->Prop}(hne:it≠e)(O:bM c)(he:c.aZ=c.env)(hn1:c.F it=none)(hn2:c.F e=none)(hO:∀ i,bM (lJ c it e a i))
  (hi:idxs K c.env.scope.names es=some [i,j])
  (hb:∀(q:Nat) v l P s (k:NP),St (lJ c it e a (q+1)) ((l.set i (some (.int q 0))).set j (some v)) (jV (aK c.env.scope.names) j (jV (aK c.env.scope.names) i P)) s->step q v l P k->wpAny (MM wd) c.A (execs body c.env) (Fl (lJ c it e a (q+1)) k R) (Exc (lJ c it e a (q+1)) X) s)
  (S:St (lJ c it e a 0) l P s) (hP:P a=some (.list t vs)) (h:cL (pV step vs) (λP'=>P' a=some (.list t vs)) ((List.range vs.length).map .ref) l P N):
  codeAny (MM wd) c.A (.forLoop (.Tuple es kk tp) (.ref e) body [] c.env) (λr s'=>match r with|.ok f=>Fl c N R f s'|.error e=>cameBackBy (MM wd) c.A c.env (Exc c X) e s') s:=by
 have ex:∀{i:Nat} {ev:Va} {s:Sh},Exc (lJ c it e a i) X ev s->notedBy (MM wd) c.A c.env (cameBackBy (MM wd) c.A c.env (Exc c X)) ev s:=λh=>(Tf hne hn1 hn2 h).loop O he;refine codeAny_forLoop_any (Sw c it e a t vs step N) ?_ vs.length ⟨0,l,P,rfl,j5 _,S,hP,h⟩
 rintro k s ⟨q,l,P,rfl,hq,S,hP,h⟩
 obtain⟨m,G,D,S'⟩:=id S;obtain⟨_,oe,eo,old,rfl⟩:=S'.sat.hid _ _ S'.kE
 have hit:∃ o,s.heap.get? it=some o/\qT a q o:=by
  have hp:(lJ c it e a q).F it=some (qT a q):=by show cH (cH c.F it _) e _ it=_;rw[aE hne,aJ]
  obtain⟨_,o,y,z⟩:=S'.sat.hid _ _ (S'.ext _ _ hp);exact⟨o,y,z⟩
 obtain⟨us,n',e1,e2⟩:=(S'.sat.rel a _ hP).2;have le:us.length=vs.length:=by rw[<-e2,ef]
 have hite:a≠e:=λz=>by
  rw[z] at e1;have q:=aj Obj.cls (kr (e1.symm.trans eo))
  injection q with q;exact absurd q ()
 have hiti:a≠it:=λz=>by obtain⟨o,y,z'⟩:=hit;rw[z] at e1;rw[e1] at y;obtain rfl:=kr y;exact absurd z'.1 (by show(Value.type "list")≠_;simp)
 rcases Nat.lt_or_ge q vs.length with hlt|hge
 ·have hgu:us[q]?=some us[q]:=f9 (by lia)
  have hgv:vs[q]?=some (ab us[q]):=by have z:=aj (λz:List Va=>z[q]?) e2;simp only[gj,hgu,i7] at z;exact z.symm
  have hd:((List.range vs.length).map Value.ref).drop q=.ref q::((List.range vs.length).map Value.ref).drop (q+1):=by rw[List.drop_eq_getElem_cons (by simpa using hlt)];simp
  rw[hd] at h;replace h:step q ((vs[q]?).getD .none) l P (λl' P'=>P' a=some (.list t vs)/\cL (pV step vs) (λP'=>P' a=some (.list t vs)) (((List.range vs.length).map .ref).drop (q+1)) l' P' N):=h;rw[hgv] at h;refine wpAny_pyNext_enum_item eo hit (bK e1) (x:=us[q]) (by simpa using hgu) (gz hne) λh' ho hit' hT hsz hk=>?_;refine wpAny_letOwnedTupleGo_enum ho λh'' he'' sb=>?_;have lte:e<s.heap.objs.size:=fy eo;have lti:it<s.heap.objs.size:=by obtain⟨o,y,_⟩:=hit;exact fy y
  have eq1:((q:Int)+1)=((q+1:Nat):Int):=by lia
  have aH:St (lJ c it e a (q+1)) l P { s with heap:=h'',toks:=s.toks+1 }:=by
   refine S.Pe hne (λb o hb1 hb2 x=>(sb.2 b hb2).trans (hk b o hb2 hb1 x)) ⟨?_,rfl,rfl⟩ ?_ he'' ⟨_,by rw[eq1]⟩
   ·show s.heap.objs.size<=h''.objs.size
    rw[tO sb];show _<=h'.objs.size;lia
   ·obtain⟨o,y,z⟩:=hit'
    exact⟨o,(sb.2 it hne).trans y,z⟩
  have ht:h''.IsTuple s.heap.objs.size #[.int q s.toks,us[q]]:=⟨_,(sb.2 _ (jr lte)).trans hT,rfl,_,rfl⟩
  have il:=Au hi;refine jz O.hh ht ?_ ?_ λh3 hx=>?_
  ·rw[gW hi,ef,il];rfl
  ·rw[gW hi];exact Ba
  ·rw[gW hi,ir]
   have bU:St (lJ c it e a (q+1)) l P { s with heap:=h3,toks:=s.toks+1 }:=aH.keep' (λb o x=>hx b o (λz=>?_) x) rfl rfl
   ·refine xZ (c:=lJ c it e a (q+1)) (hO _) he hi (by simp) bU λs' S'=>?_
    refine ak (hb q (ab us[q]) l P s' _ S' h) (λf jC bY=>?_) λu u x=>ex x;cases f with
    | next=>obtain⟨l',P',S',hP',h'⟩:=bY;exact⟨vs.length-(q+1),by lia,q+1,l',P',rfl,hlt,S',hP',h'⟩
    | cont=>exact ck bY
    | brk=>exact ck bY
    | ret v=>obtain⟨l',P',S',h'⟩:=bY;exact⟨l',P',PF hne hn1 hn2 S',h'⟩
   ·rw[z] at x;exact absurd (fy x) (ig _)
 ·have hie:q=vs.length:=Nat.le_antisymm hq hge
  subst hie;rw[List.drop_eq_nil_of_le (by simp)] at h;refine wpAny_pyNext_enum_end O.hh eo hit (bK e1) (by simp;lia) λh' xb=>bq ⟨l,P,?_,h⟩;have S'':lT (pinned (pinned c e (B3 it vs.length)) it (qT a vs.length)) l P s m G D:=by rw[<-jL hne];exact S'
  exact(S''.drop nj (by show cH c.F e _ it=none;rw[aE hne];exact hn1) xb).jO m9 hn2
end
end
section
section
variable{cc:Fx}{X:XP}{Q:VQ}{N:NP}{R:VQ}{n:Nat}{I:Ad}{p p':Obj->Prop}
noncomputable def lH(env:Env):NS->List (Str × Ad)->List (Str × Ad)
 | [],acc=>acc
 | q::r,acc=>lH env r (if q.2==.free then(q.1,(env.cells.lookup q.1).getD 0)::acc else acc)
theorem BR{env:Env}{q:Str × NameKind}{r:NS}{acc:List (Str × Ad)}:lH env (q::r) acc=lH env r (if q.2==.free then(q.1,(env.cells.lookup q.1).getD 0)::acc else acc):=rfl
theorem Em{env:Env}:∀(nms:NS) (acc:List (Str × Ad)),(∀ q∈nms,q.2=.free->(env.cells.lookup q.1).isSome=true)->(forIn nms acc λx r=>do
   let __s:=r
   if (x.2==NameKind.free)=true then do
    let a<-cellOf env x.1
    pure (ForInStep.yield ((x.1,a)::__s))
   else pure (ForInStep.yield __s):Sem (List (Str × Ad)))=pure (lH env nms acc):=by
 intro rr;induction rr with
 | nil=>exactλacc j=>rfl
 | cons q r ih=>
  intro acc h;rw[List.forIn_cons];rw[BR];by_cases hq:(q.2==NameKind.free)=true
  ·have h1:=h q (.head _) (by simpa using hq)
   obtain⟨a,ha⟩:=cz h1;have hc:cellOf env q.1=pure a:=by unfold cellOf;rw[ha]
   simp only[hq,if_true,hc,pure_bind,ha,Option.getD_some];exact ih _ λq' hm=>h q' (.tail _ hm)
  ·simp only[aa hq,pure_bind]
   exact ih _ λq' hm=>h q' (.tail _ hm)
theorem uz{env:Env}{sc:Scope}(h:∀ q∈sc.names,q.2=.free->(env.cells.lookup q.1).isSome=true):closureFor sc env=pure (lH env sc.names []):=by have:=Em (env:=env) sc.names [] h;unfold closureFor;simp only[bind_pure];exact this
theorem GY{env:Env}{y:Str}{a:Ad}:∀(nms:NS) (acc:List (Str × Ad)),(y,a)∈lH env nms acc->(y,a)∈acc\/((y,.free)∈nms/\a=(env.cells.lookup y).getD 0):=by
 intro rr;induction rr with
 | nil=>exactλacc h=>.inl h
 | cons q r ih=>
  intro acc h;rw[BR] at h;rcases ih _ h with h|⟨h1,h2⟩
  ·by_cases hq:(q.2==NameKind.free)=true
   ·rw[ai hq] at h
    rcases ku h with h|h
    ·obtain⟨y',k⟩:=q
     cases h;obtain rfl:k=.free:=by simpa using hq
     exact .inr ⟨.head _,rfl⟩
    ·exact .inl h
   ·rw[aa hq] at h;exact .inl h
  ·exact .inr ⟨.tail _ h1,h2⟩
theorem qN{env:Env}{y:Str}:∀(nms:NS) (acc:List (Str × Ad)),((y,.free)∈nms\/(acc.lookup y).isSome=true)->((lH env nms acc).lookup y).isSome=true:=by
 intro rr;induction rr with
 | nil=>
  intro acc h;rcases h with h|h
  ·cases h
  ·exact h
 | cons q r ih=>
  intro acc h;rw[BR];refine ih _ ?_;rcases h with h|h
  ·rcases ku h with h|h
   ·subst h;right;simp
   ·exact .inl h
  ·right
   split
   ·rw[f6];split
    ·rfl
    ·exact h
   ·exact h
theorem pS{env:Env}{y:Str}{nms:NS}{a:Ad}(h:(lH env nms []).lookup y=some a)(hs:∀ q∈nms,q.2=.free->(env.cells.lookup q.1).isSome=true):(y,.free)∈nms/\env.cells.lookup y=some a:=by
 rcases GY nms [] (mem_of_lookup h) with h|⟨h1,h2⟩
 ·cases h
 ·obtain⟨b,hb⟩:=cz (hs _ h1 rfl)
  rw[hb] at h2;subst h2;exact⟨h1,hb⟩
theorem vz{ns nms:NS}:(iP ns nms).map (·.1)=nms.map (·.1):=by unfold iP;rw[ir];refine jy λq j=>?_;obtain⟨y,k⟩:=q;show(if _ then _ else _:Str × NameKind).1=y;split<;>rfl
theorem A8{ns nms:NS}{i:Nat}{y:Str}{k:NameKind}(h:nms[i]?=some (y,k)):(iP ns nms)[i]?=some (if (k==.free&&ns.lookup y==some .cell) then(y,.cell) else(y,k)):=by unfold iP;rw[gj,h];rfl
theorem oE(O:bM c)(sc:Scope):(relabel sc c.env).names=iP c.env.scope.names sc.names:=by unfold relabel iP;show List.map _ _=List.map _ _;refine jy λq j=>?_;obtain⟨y,k⟩:=q;show(if (k==NameKind.free&&c.env.scope.kind==.function&&c.env.scope.names.lookup y==some .cell)=true then(y,NameKind.cell) else(y,k))=(if (k==NameKind.free&&c.env.scope.names.lookup y==some .cell)=true then(y,NameKind.cell) else(y,k));rw[O.knd,show(ScopeKind.function==ScopeKind.function)=true from rfl,Bool.and_true]
structure Np(ns:NS)(sc:Scope)(k:Nat)(x:Str):Prop where
 knd:sc.kind=.function
 M1:∀ q∈sc.names,q.2≠.cell
 nd:(sc.names.map (·.1)).Nodup
 at_:sc.names[k]?=some (x,.local)
 Dl:∀ q∈sc.names,q.2=.free->ns.lookup q.1=some .cell
 TJ:∀ k,sc.names.map (·.1)≠gR k
set_option tactic.hygienic true in
theorem KU{ns:NS}{sc:Scope}{k:Nat}{x:Str}(h:AG ns sc k=true)(hk:sc.names.findIdx? (λq=>q.1==x)=some k):Np ns sc k x:=by
 unfold AG at h;simp only[e9,az,List.all_eq_true,bne_iff_ne,ne_eq,decide_eq_true_eq,j4] at h;obtain⟨⟨⟨⟨⟨⟨h1,h2⟩,h3⟩,h4⟩,h5⟩,h6⟩,h7⟩:=h;refine⟨h1,h2,h3,?_,λq hq hf=>?_,λk=>?_⟩;rotate_left 2
 ·unfold gR rV
  split
  ·exact h6
  ·exact h7
 ·obtain⟨kk,hkk⟩:=s8 hk
  rw[hkk] at h4;cases kk<;>first|exact gP h4|exact hkk
 ·rcases h5 q hq with h|h
  ·exact absurd hf h
  ·exact h
def tS(ys:List Va):Obj->Prop:=λo=>∃ n,o=listOf ys.toArray n
theorem Ea{ys:List Va}:nL (tS ys):=HE λo ⟨n,h⟩=>⟨_,n,aj Obj.data h⟩
noncomputable abbrev pc(cc:Fx)(I D:Ad)(pin:Nat->Obj->Prop)(i:Nat)(ys:List Va):Fx:=pinned (pinned cc I (pin i)) D (tS ys)
theorem DO{I D:Ad}{pin:Nat->Obj->Prop}{i:Nat}{ys:List Va}(h:I≠D):pc cc I D pin i ys=pinned (pinned cc D (tS ys)) I (pin i):=jL h
theorem Rr{ev:Va}:¬ Exc c oA ev s:=λ⟨_,_,_,_,_,_,_,_,_,_,h⟩=>h
def GN(n:Nat)(test elt:T)(l0:Lv)(k:Nat):Va->PH->(Op Va->PH->Prop)->Prop:=λv P r=>bE n test (l0.set k (some v)) P oA λb P=>aV b (bE n elt (l0.set k (some v)) P oA λv P=>r (some v) P) (r none P)
inductive Nn(cc:Fx)(I D:Ad)(pin:Nat->Obj->Prop)(n:Nat)(test elt:T)(l0:Lv)(k:Nat)(a:Ad)(o:PO)(vs:List Va)(cont:List Va->PH->Prop)(q:Nat)(s:Sh):Prop
 | mk (i:Nat) (ys:List Va) (l:Lv) (P:PH) (hq:q=vs.length-i) (hi:i<=vs.length) (hy:ys.length<=i) (S:St (pc cc I D pin i ys) l P s) (hl:∀ v,l.set k (some v)=l0.set k (some v)) (hP:rd P a=some o)
  (h:xH (GN n test elt l0 k) (λP'=>iC P'->rd P' a=some o) (vs.drop i) (ys.map ab) P cont)
theorem BS{f:Nat}(H:dM f)(HT:sd f){a I D:Ad}{o:PO}{vs:List Va}{pin:Nat->Obj->Prop}{ns:NS}{l0:Lv}{k:Nat}{x:Str}{px pos:Pos}{elt it:Expr}{ifs:List Expr}{sc sc':Scope}{test:T}{cont:List Va->PH->Prop}{R:Result->Sh->Prop}
  (T:tR a o vs pin) (hrel:∀(c:Fx) l P s F d,bM c->St c l P s->rd P a=some o->cY s.heap F d a o)
  (haI:a≠I) (hID:I≠D) (OO:∀ i ys,bM (pc cc I D pin i ys)) (hnI:cc.F I=none) (Rm:bP n cc.A) (hns:cc.env.scope.names=ns) (hx:ns[k]?=some (x,.local))
  (hif:(ifs=[]/\test=.con (.bool true))\/∃ t,ifs=[t]/\test=aC K f ns t) (hlen:vs.length<big)
  (hR:∀ ys l P s m G Dm,lT (pinned cc D (tS ys)) l P s m G Dm->cont (ys.map ab) P->R (.ok .next) s)
  (S:St (pc cc I D pin 0 []) l P s) (hl:∀ v,l.set k (some v)=l0.set k (some v)) (hP:rd P a=some o)
  (h:xH (λv P r=>bE n test (l0.set k (some v)) P oA λb P=>aV b (bE n (aC K f ns elt) (l0.set k (some v)) P oA λv P=>r (some v) P) (r none P)) (λP'=>iC P'->rd P' a=some o) vs [] P cont):
  codeAny (MM wd) cc.A (.compLoop (.ListComp elt [⟨.Name x px,it,ifs,0⟩] sc' pos) 0 (.ref I) (.ref D) cc.env) R s:=by
 have ex:∀{i:Nat} {ys:List Va} {ev:Va} {s:Sh} {Z:Prop},Exc (pc cc I D pin i ys) oA ev s->Z:=λh=>absurd h Rr;refine codeAny_compLoop_tests (Nn cc I D pin n test (aC K f ns elt) l0 k a o vs cont) ?_ vs.length ⟨0,[],l,P,rfl,j5 _,f7 _,S,hl,hP,h⟩
 rintro q s ⟨i,ys,l,P,rfl,hi,hyl,S,hl,hP,h⟩
 have hr:∀ F d,cY s.heap F d a o:=λF d=>hrel _ _ _ _ F d (OO i ys) S hP
 have hit:∃ ob,s.heap.get? I=some ob/\pin i ob:=by
  obtain⟨m,G,Dm,S'⟩:=S;have hp:(pc cc I D pin i ys).F I=some (pin i):=by show cH (cH cc.F I _) D _ I=_;rw[aE hID,aJ]
  obtain⟨_,o,y,z⟩:=S'.sat.hid _ _ (S'.ext _ _ hp);exact⟨o,y,z⟩
 have hh:cc.A.handled=none:=(OO 0 []).hh;rcases Nat.lt_or_ge i vs.length with hlt|hge
 ·have hg:vs[i]?=some vs[i]:=f9 hlt
  rw[List.drop_eq_getElem_cons hlt] at h;refine T.item _ _ _ (λj=>none) 0 i _ _ _ hh haI (hr _ _) hit hg λv h' hv hp' sb=>?_;have aH:St (pc cc I D pin (i+1) ys) l P { s with heap:=h' }:=by rw[DO hID] at S ⊢;exact S.xU (T.fld _) (λb o hb e=>(sb.2 b hb).trans e) ⟨gi (tO sb).symm,rfl,rfl⟩ hp'
  refine jm (St.store (c:=pc cc I D pin (i+1) ys) aH (OO _ _) (by show cc.env.scope.names[k]?=_;rw[hns];exact hx) v λcD bU=>?_);rw[hl,hv] at bU;have fin:∀{ys':List Va} {P':PH} {s':Sh},ys'.length<=i+1->St (pc cc I D pin (i+1) ys') (l0.set k (some vs[i])) P' s'->(iC P'->rd P' a=some o)->xH (GN n test (aC K f ns elt) l0 k) (λP'=>iC P'->rd P' a=some o) (vs.drop (i+1)) (ys'.map ab) P' cont->∃ m,m<vs.length-i/\Nn cc I D pin n test (aC K f ns elt) l0 k a o vs cont m s':=λ{ys' P' s'} hy S' hP' h'=>⟨vs.length-(i+1),by lia,i+1,ys',_,P',rfl,hlt,hy,S',λv=>List.set_set ..,hP' (yU S' (OO _ _)),h'⟩
  have elt_:∀{P':PH} {s':Sh},St (pc cc I D pin (i+1) ys) (l0.set k (some vs[i])) P' s'->bE n (aC K f ns elt) (l0.set k (some vs[i])) P' oA (λv P'=>(iC P'->rd P' a=some o)/\xH (GN n test (aC K f ns elt) l0 k) (λP'=>iC P'->rd P' a=some o) (vs.drop (i+1)) (ys.map ab++[v]) P' cont)->wpAny (MM wd) cc.A (eval elt cc.env) (λx zq=>wpAny (MM wd) cc.A (call (.builtin "list.append") [.ref D,x]) (λ_ FY=>∃ m,m<vs.length-i/\Nn cc I D pin n test (aC K f ns elt) l0 k a o vs cont m FY)
     (notedBy (MM wd) cc.A cc.env λe s'=>R (.error e) s') zq) (notedBy (MM wd) cc.A cc.env λe s'=>R (.error e) s') s':=λ{P' s'} S' h'=>by
   refine ak (H elt (pc cc I D pin (i+1) ys) _ P' s' oA _ n (OO _ _) Rm S' (by show bE n (aC K f cc.env.scope.names elt) _ _ _ _;rw[hns];exact h')) (λu zq sy=>?_) λj j x=>ex x;obtain⟨Nt,lE,QO,sy⟩:=sy;obtain⟨m,G,Dm,Mp⟩:=id lE;obtain⟨_,ob,eo,n',rfl⟩:=Mp.sat.hid _ _ Mp.kE;refine append_at eo (λh5 hs e5=>?_) ?_
   ·refine fin (ys':=ys++[u]) (by simp;lia) ?_ QO (by rw[i8];exact sy)
    refine St.xU (c:=pinned cc I (pin (i+1))) lE Ea (vC hs) ⟨vD hs,rfl,rfl⟩ ⟨_,e5,n'+1,?_⟩;show(_:Obj)=W.listOf _ _;unfold W.listOf;simp
   ·rw[ie];exact dN (k6 hyl (gy hlt hlen))
  rcases hif with⟨rfl,rfl⟩|⟨t,rfl,rfl⟩
  ·refine wpAny_tests_nil ?_
   rw[ai rfl];exact elt_ bU h
  ·refine wpAny_tests_one (ak (HT t (pc cc I D pin (i+1) ys) _ P cD oA _ _ n (OO _ _) Rm bU (by show bE n (aC K f cc.env.scope.names t) _ _ _ _;rw[hns];exact h)) (λb jC bY=>?_) λj j x=>ex x)
   obtain⟨qF,dS,bY⟩:=bY;cases b
   ·rw[aa ()]
    exact fin (by lia) dS bY.1 bY.2
   ·rw[ai rfl]
    exact elt_ dS bY
 ·have hie:i=vs.length:=Nat.le_antisymm hi hge
  subst hie;rw[List.drop_eq_nil_of_le (f7 _)] at h;refine T.done _ _ _ (λj=>none) 0 _ _ hh haI (hr _ _) hit λh' xb=>?_;rw[DO hID] at S;obtain⟨m,G,Dm,S'⟩:=S;obtain⟨m',G',Dm',S''⟩:=S'.drop (T.fld _) (by show cH cc.F D _ I=none;rw[aE hID];exact hnI) xb;exact hR ys l P _ m' G' Dm' S'' h
end
end
section
variable{cc:Fx}{X:XP}{Q:VQ}{N:NP}{R:VQ}{n:Nat}{I:Ad}{p p':Obj->Prop}
theorem Sat.add{base h:Heap}{F:HF}{a:Ad}{o:PO}(S:Sat base h F P D)(f1:P a=none)(f2:∀ b o,P b=some o->o.eY=true->D b≠a)(f3:F a=none)(ba:base.get? a=none)(hd:o.eY=false)(r:cY h F (D a) a o):Sat base h F (upd P a o) D:=S.gen rfl S.stay S.hid (λb x j hb=>(S.rel b x hb).2) (λj j=>rfl) ba r (λq p hq z=>bB (f3.symm.trans (z▸hq))) f2 λq=>lz (q.symm.trans hd)
theorem Sat.show{base h:Heap}{F:HF}{a:Ad}{o:PO}(S:Sat base h F P D)(ha:F a=some p)(hl:∀ oc,h.get? a=some oc->∀ v,oc.data≠.cell (some v))(hd:o.eY=false)(r:∀ F d,cY h F d a o):Sat base h (λb=>if b=a then none else F b) (upd P a o) D:=(S.drop (.gY S.stay (λq q q e=>e) (S.hid _ _ ha).b) ha hl).add (S.fp _ _ ha) (λb o hb hd=>S.fd _ _ ha b o hb hd) (ai rfl) (S.hid _ _ ha).b hd (r _ _)
theorem Hh{l0:Lv}{P0:PH}{s0:Sh}{m0:Str->Op Va}{G0:HF}{D0:Ad->Ad}{cenv:Env}{Dd:Ad}{ys:List Va}(S0:lT c l0 P0 s0 m0 G0 D0)
  (S:lT (pinned { c with env:=cenv,F:=G0 } Dd (tS ys)) l P s m G D) (hC:G0 cenv.locals=none) (hD:G0 Dd=none) (hDC:cenv.locals≠Dd) (hcell:∀ x a,cenv.cells.lookup x=some a->∃ p,G0 a=some p):
  P Dd=none/\c.env.locals≠cenv.locals/\(∀ Lf,c.aZ.frame=some Lf->Lf≠cenv.locals)/\c.F cenv.locals=none/\St (pinned c cenv.locals (dH m)) l0 (upd P Dd (.list (0,0) (ys.map ab))) s:=by
 have pD:=S.kE;obtain⟨zD,oD,eD,nD,rfl⟩:=S.sat.hid _ _ pD
 have hF:∀ b p,cH (cH G0 Dd (tS ys)) cenv.locals (dH m) b=some p->G b=some p:=λb p h=>by
  by_cases hb:b=cenv.locals
  ·subst hb;rw[aJ] at h;obtain rfl:=kr h;exact S.loc
  ·rw[aE hb] at h;exact S.ext _ _ h
 have sat2:Sat c.base s.heap (cH (cH G0 Dd (tS ys)) cenv.locals (dH m)) P D:=by
  refine S.sat.CL hF (.inr λb p hp hh=>?_);by_cases hb:b=cenv.locals
  ·subst hb
   have:=S.loc;rw[show(pinned { c with env:=cenv,F:=G0 } Dd (tS ys)).env.locals=cenv.locals from rfl,hp] at this;obtain rfl:=kr this;exact aJ ..
  ·rw[aE hb]
   rcases S.own b p hp with q|q|⟨⟨v,rfl⟩,x,hx,_⟩
   ·exact q
   ·obtain⟨_,o,eo,po⟩:=S.sat.hid _ _ hp
    obtain⟨oc,e1,v,e2⟩:=hh;rw[eo] at e1;obtain rfl:=kr e1;exact absurd e2 (q _ po v)
   ·obtain⟨p',hp'⟩:=hcell x b hx
    have hbD:b≠Dd:=by rintro rfl;rw[hD] at hp';cases hp'
    rw[aE hbD];have:=S.ext b p' (by show cH G0 Dd _ b=_;rw[aE hbD];exact hp');rw[hp] at this;obtain rfl:=kr this;exact hp'
 have sat3:=sat2.show (a:=Dd) (o:=.list (0,0) (ys.map ab)) (by rw[aE (gz hDC)];exact aJ ..) (λoc e v q=>by rw[eD] at e;obtain rfl:=kr e;cases q) rfl λF d=>⟨ys,nD,eD,rfl⟩
 have hF3:(λb=>if b=Dd then none else cH (cH G0 Dd (tS ys)) cenv.locals (dH m) b)=cH G0 cenv.locals (dH m):=by
  funext b;by_cases hb:b=Dd
  ·subst hb;rw[ai rfl,aE (gz hDC),hD]
  ·rw[aa hb]
   by_cases hc:b=cenv.locals
   ·subst hc;rw[aJ,aJ]
   ·rw[aE hc,aE hc,aE hb]
 rw[hF3] at sat3;have ne:∀ a p,G0 a=some p->a≠cenv.locals:=λa p h=>by rintro rfl;rw[hC] at h;cases h
 refine⟨S.sat.fp _ _ pD,ne _ _ S0.loc,λLf hLf=>?_,?_,m0,cH G0 cenv.locals (dH m),D,λa p h=>?_,(aE (ne _ _ S0.loc)).trans S0.loc,?_,λx a h=>?_,λa p h=>?_,sat3,?_,S.gens,S.os⟩
 ·obtain⟨L',mf,e1,e2⟩:=S0.nM
  rw[hLf] at e1;obtain rfl:=kr e1;exact ne _ _ e2
 ·cases q:c.F cenv.locals with
  | none=>rfl
  | some p=>exact absurd rfl (ne _ _ (S0.ext _ _ q))
 ·by_cases ha:a=cenv.locals
  ·subst ha
   rw[show(pinned c cenv.locals (dH m)).F cenv.locals=some (dH m) from aJ ..] at h;obtain rfl:=kr h;exact aJ ..
  ·rw[show(pinned c cenv.locals (dH m)).F a=c.F a from aE ha] at h
   rw[aE ha];exact S0.ext _ _ h
 ·obtain⟨L',mf,e1,e2⟩:=S0.nM
  exact⟨L',mf,e1,(aE (ne _ _ e2)).trans e2⟩
 ·obtain⟨v,hv⟩:=S0.nZ x a h
  exact⟨v,(aE (ne _ _ hv)).trans hv⟩
 ·by_cases ha:a=cenv.locals
  ·subst ha
   rw[aJ] at h;obtain rfl:=kr h;exact .inl (aJ ..)
  ·rw[aE ha] at h
   exact(S0.own a p h).imp_left λz=>(aE ha).trans z
 ·intro i v e
  obtain⟨x,k,hx,b⟩:=S0.lv i v e;refine⟨x,k,hx,?_⟩;rcases b with b|⟨hc,a,v',ea,ga,q⟩
  ·exact .inl b
  ·exact .inr ⟨hc,a,v',ea,(aE (ne _ _ ga)).trans ga,q⟩
theorem St.ME{C:Ad}{h':Heap}{mC:Str->Op Va}(S:St (pinned c C (dH mC)) l P s)(hL:c.env.locals≠C)(hf:∀ Lf,c.aZ.frame=some Lf->Lf≠C)(hn:c.F C=none)(k:Heap.SameBut C s.heap h'):St c l P { s with heap:=h' }:=by
 obtain⟨m,G,D,S⟩:=S;have hI:=S.kE;obtain⟨zI,oI,eI,pI⟩:=S.sat.hid _ _ hI;have nI:∀ b,b≠C->(if b=C then none else G b)=G b:=λb hb=>aa hb;have cellNe:∀{a v},G a=some (eS v)->a≠C:=λh=>BB S.sat hI h;refine⟨m,λb=>if b=C then none else G b,D,λb q h=>?_,(nI _ hL).trans S.loc,?_,λx b h=>?_,λb q h=>?_,?_,λi v e=>?_,S.gens,S.os⟩
 ·have hb:b≠C:=by rintro rfl;rw[hn] at h;cases h
  exact(nI _ hb).trans (S.ext _ _ ((aE hb).trans h))
 ·obtain⟨Lf,mf,e1,e2⟩:=S.nM
  exact⟨Lf,mf,e1,(nI _ (hf _ e1)).trans e2⟩
 ·obtain⟨v,hv⟩:=S.nZ x b h
  exact⟨v,(nI _ (cellNe hv)).trans hv⟩
 ·by_cases hb:b=C
  ·subst hb
   simp at h
  ·replace h:(if b=C then none else G b)=some q:=h
   rw[nI _ hb] at h;refine(S.own b q h).imp_left λz=>?_;rw[show(pinned c C (dH mC)).F b=c.F b from aE hb] at z;exact z
 ·refine S.sat.drop (.gY S.sat.stay (λb o hb e=>(k.2 b hb).trans e) zI) hI λoc e v q=>?_
  rw[eI] at e;obtain rfl:=kr e;exact dU _ pI v q
 ·obtain⟨x,kk,hx,b⟩:=S.lv i v e
  refine⟨x,kk,hx,?_⟩;rcases b with b|⟨hc,a,v',ea,ga,q⟩
  ·exact .inl b
  ·exact .inr ⟨hc,a,v',ea,(nI _ (cellNe ga)).trans ga,q⟩
theorem Ff{ns l:NS}{y:Str}(h:(iP ns l).lookup y=some .cell)(nc:∀ q∈l,q.2≠.cell):∃ q∈l,q.1=y/\q.2=.free:=by
 have hm:=mem_of_lookup h;unfold iP at hm;obtain⟨q,hq,e⟩:=List.mem_map.mp hm;refine⟨q,hq,?_⟩;have e:(if (q.2==.free&&ns.lookup q.1==some .cell)=true then(q.1,NameKind.cell) else(q.1,q.2))=(y,.cell):=e;by_cases hc:(q.2==.free&&ns.lookup q.1==some .cell)=true
 ·rw[ai hc] at e
  exact⟨(jb e).1,beq_iff_eq.mp (dm hc).1⟩
 ·rw[aa hc] at e
  exact absurd (jb e).2 (nc q hq)
theorem Ko{ns l0:NS}{l:Lv}{j:Nat}{v:Va}(h:(lG (l0.map (mh ns)) l)[j]?=some (some v)):∃ y i,l0[j]?=some (y,.free)/\ns.findIdx? (λp=>p.1==y)=some i/\l[i]?=some (some v):=by
 unfold lG at h;rw[gj,gj] at h;refine dJ h λo ho e=>dJ ho λq hq w=>?_;rw[<-w] at e;unfold mh at e;by_cases hf:(q.2==NameKind.free)=true
 ·rw[ai hf] at e
  refine aN e λi hi e=>⟨q.1,i,hq.trans (by rw[<-beq_iff_eq.mp hf]),hi,?_⟩
  cases z:l[i]? with
  | none=>rw[z] at e;exact bB e
  | some u=>rw[z] at e;exact aj some e
 ·rw[aa hf] at e;exact bB e
theorem Sf{G:HF}{I D C a:Ad}{p1 p2 p3 p:Obj->Prop}(h:cH (cH (cH G I p1) D p2) C p3 a=some p):(a=C/\p=p3)\/(a=D/\p=p2)\/(a=I/\p=p1)\/G a=some p:=by
 by_cases hc:a=C
 ·rw[hc,aJ] at h;exact .inl ⟨hc,(kr h).symm⟩
 rw[aE hc] at h;by_cases hd:a=D
 ·rw[hd,aJ] at h;exact .inr (.inl ⟨hd,(kr h).symm⟩)
 rw[aE hd] at h;by_cases hi:a=I
 ·rw[hi,aJ] at h;exact .inr (.inr (.inl ⟨hi,(kr h).symm⟩))
 rw[aE hi] at h;exact .inr (.inr (.inr h))
theorem Ku(O:bM c){m0:Str->Op Va}{G0:HF}{D0:Ad->Ad}(S0:lT c l P s m0 G0 D0){sc:Scope}{k:Nat}{x:Str}(L:Np c.env.scope.names sc k x){I Dd C:Ad}{pin:Nat->Obj->Prop}(hI:s.heap.objs.size<=I)(hD:s.heap.objs.size<=Dd)(hC:s.heap.objs.size<=C)(h1:I≠Dd)(h2:C≠I)(h3:C≠Dd)
  (kp:gS s.heap s'.heap) (sg:s'.gens=s.gens) (so:s'.os=s.os) (oI:∃ o,s'.heap.get? I=some o/\pin 0 o) (oD:∃ o,s'.heap.get? Dd=some o/\tS [] o) {mC:Str->Op Va} (oC:s'.heap.Ns C mC):
  (∀ i ys,bM (pc { c with env:=compEnvC sc (lH c.env sc.names []) C c.env,F:=G0 } I Dd pin i ys))/\G0 C=none/\G0 I=none/\G0 Dd=none/\(∀ x a,(lH c.env sc.names []).lookup x=some a->∃ p,G0 a=some p)/\St (pc { c with env:=compEnvC sc (lH c.env sc.names []) C c.env,F:=G0 } I Dd pin 0 []) (lG (sc.names.map (mh c.env.scope.names)) l) P s':=by
 have lt:∀{a p},G0 a=some p->a<s.heap.objs.size:=λ{a p} h=>let ⟨_,o,eo,_⟩:=S0.sat.hid a p h;fy eo
 have out:∀{a},s.heap.objs.size<=a->G0 a=none:=λ{a} h=>by
  cases q:G0 a with
  | none=>rfl
  | some p=>exact absurd (lt q) (Nat.not_lt.mpr h)
 have nI:∀{a p},G0 a=some p->a≠I:=λh z=>absurd (lt h) (Nat.not_lt.mpr (z▸hI));have nD:∀{a p},G0 a=some p->a≠Dd:=λh z=>absurd (lt h) (Nat.not_lt.mpr (z▸hD));have nC:∀{a p},G0 a=some p->a≠C:=λh z=>absurd (lt h) (Nat.not_lt.mpr (z▸hC));have Dl:∀ q∈sc.names,q.2=.free->(c.env.cells.lookup q.1).isSome=true:=λq hq hf=>Option.isSome_iff_exists.mpr (O.cA _ (L.Dl q hq hf));have hcl:∀{y a},(lH c.env sc.names []).lookup y=some a->(y,.free)∈sc.names/\c.env.cells.lookup y=some a:=λh=>pS h Dl;have nZ:∀ y a,(lH c.env sc.names []).lookup y=some a->∃ v,G0 a=some (eS v):=λy a h=>S0.nZ y a (hcl h).2;have hnm:(relabel sc c.env).names=iP c.env.scope.names sc.names:=oE O sc;have nd':((iP c.env.scope.names sc.names).map (·.1)).Nodup:=by rw[vz];exact L.nd
 refine⟨λi ys=>?_,out hC,out hI,out hD,λy a h=>(nZ y a h).imp' _ λv hv=>hv,?_⟩
 ·refine⟨O.hA,O.hh,L.knd,O.qS,O.JT,by show((relabel sc c.env).names.map (·.1)).Nodup;rw[hnm];exact nd',?_,λhe=>?_,λy z a h h'=>O.cI y z a (hcl h).2 (hcl h').2,O.fk,O.X,O.top,O.big,O.st,λe he=>?_,λy hy=>?_,O.fl,λk hk=>absurd hk (by show(relabel sc c.env).names.map (·.1)≠_;rw[hnm,vz];exact L.TJ k),fu (ja (k6 O.Nz (lt S0.loc))) hC,O.GX⟩
  ·show cH (cH G0 I _) Dd _ C=none
   rw[aE h3,aE h2];exact out hC
  ·obtain⟨Lf,mf,e1,e2⟩:=S0.nM
   have hf:=O.fl;rw[e1] at hf;have:c.aZ.locals=C:=aj Env.locals he;rw[this] at hf;obtain rfl:=kr hf;exact absurd rfl (nC e2)
  ·obtain⟨q1,Li,mi,q2,q3⟩:=O.frs e he
   refine⟨q1,Li,mi,q2,?_⟩;have:=S0.ext _ _ q3;show cH (cH G0 I _) Dd _ Li=_;rw[aE (nD this),aE (nI this)];exact this
  ·have hy':(iP c.env.scope.names sc.names).lookup y=some .cell:=by rw[<-hnm];exact hy
   obtain⟨q,hq,rfl,e⟩:=Ff hy' L.M1;exact cz (qN _ _ (.inl (by rw[<-e];exact hq)))
 ·refine⟨mC,cH (cH (cH G0 I (pin 0)) Dd (tS [])) C (dH mC),D0,λa p h=>?_,aJ ..,?_,λy a h=>?_,λa p h=>?_,?_,?_,sg.trans S0.gens,so.trans S0.os⟩
  ·by_cases hc:a=C
   ·subst hc
    rw[show(pc { c with env:=compEnvC sc (lH c.env sc.names []) a c.env,F:=G0 } I Dd pin 0 []).F a=none from(aE h3).trans ((aE h2).trans (out hC))] at h;cases h
   ·rw[aE hc];exact h
  ·obtain⟨Lf,mf,e1,e2⟩:=S0.nM
   exact⟨Lf,mf,e1,by rw[aE (nC e2),aE (nD e2),aE (nI e2)];exact e2⟩
  ·obtain⟨v,hv⟩:=nZ y a h
   exact⟨v,by rw[aE (nC hv),aE (nD hv),aE (nI hv)];exact hv⟩
  ·by_cases hc:a=C
   ·subst hc;rw[aJ] at h;obtain rfl:=kr h;exact .inr (.inl dU)
   ·rw[aE hc] at h;exact .inl h
  ·have le:s.heap.objs.size<=s'.heap.objs.size:=by obtain⟨o,e,_⟩:=oI;exact ja (k6 hI (fy e))
   refine S0.sat.hides (.of_keep S0.sat.stay kp) (λa p h=>by rw[aE (nC h),aE (nD h),aE (nI h)];exact h) λa p h=>?_;have nw:∀{a:Ad} {p:Obj->Prop},s.heap.objs.size<=a->(∃ o,s'.heap.get? a=some o/\p o)->G0 a=some p\/(s.heap.get? a=none/\c.base.get? a=none/\∃ o,s'.heap.get? a=some o/\p o):=λz w=>.inr ⟨(S0.sat.lt z).1,(S0.sat.lt z).2,w⟩;rcases Sf h with⟨rfl,rfl⟩|⟨rfl,rfl⟩|⟨rfl,rfl⟩|h
   ·exact nw hC (iZ oC)
   ·exact nw hD oD
   ·exact nw hI oI
   ·exact .inl h
  ·intro j v hj
   obtain⟨y,i,hq,hi,hli⟩:=Ko hj;obtain⟨kk,hkk⟩:=s8 hi;have hfr:=L.Dl (y,.free) (g4 hq) rfl;have hkc:kk=.cell:=kr ((aT O.nd hkk).symm.trans hfr);subst hkc;obtain⟨y',k',hy',b⟩:=S0.lv i v hli;rw[hkk] at hy';cases hy';rcases b with⟨q,_⟩|⟨_,a,v',ea,ga,q⟩
   ·cases q
   ·have hg:=A8 (ns:=c.env.scope.names) hq
    refine⟨y,.cell,?_,.inr ⟨.inl rfl,a,v',?_,by rw[aE (nC ga),aE (nD ga),aE (nI ga)];exact ga,q⟩⟩
    ·show(relabel sc c.env).names[j]?=_
     rw[hnm,hg,ai];rw[hfr];rfl
    ·obtain⟨a',ha'⟩:=cz (qN (env:=c.env) (y:=y) sc.names [] (.inl (g4 hq)))
     have:=(hcl ha').2;rw[ea] at this;obtain rfl:=kr this;exact ha'
end
section
variable{cc:Fx}{X:XP}{Q:VQ}{N:NP}{R:VQ}{n:Nat}{I:Ad}{p p':Obj->Prop}
theorem uC{f:Nat}(H:dM f)(HT:sd f)(O:bM c)(Rm:bP n c.A)(S:St c l P s){a:Ad}{o:PO}{vs:List Va}{pin:Nat->Obj->Prop}{k:Nat}{x:Str}{px pos:Pos}{elt it:Expr}{ifs:List Expr}{sc:Scope}{test:T}{cont:List Va->PH->Prop}{RR:Va->Ad->Result->Sh->Prop}{ob:Obj}
  (T:tR a o vs pin) (hrel:∀(c:Fx) l P s F d,bM c->St c l P s->rd P a=some o->cY s.heap F d a o)
  (L:Np c.env.scope.names sc k x) (hp0:pin 0 ob) (hfr:ob.isFreed=false) (haS:∃ z,s.heap.get? a=some z)
  (hif:(ifs=[]/\test=.con (.bool true))\/∃ t,ifs=[t]/\test=aC K f (iP c.env.scope.names sc.names) t) (hlen:vs.length<big) (hP:rd P a=some o)
  (hsl:∀ h',pyIter (.ref s.heap.objs.size)=pyIter (.ref s.heap.objs.size)->(∃ z,h'.get? s.heap.objs.size=some z/\pin 0 z)->∀(Q:VS) (E:VS) (A:Around) (s':Sh),s'.heap=h'->Q (.ref s.heap.objs.size) s'->wpAny (MM wd) A (pyIter (.ref s.heap.objs.size)) Q E s')
  (hR:∀ Dd C (s':Sh) (ys:List Va) (P':PH) (mC:Str->Op Va),c.env.locals≠C->(∀ Lf,c.aZ.frame=some Lf->Lf≠C)->c.F C=none->P' Dd=none->St (pinned c C (dH mC)) l (upd P' Dd (.list (0,0) (ys.map ab))) s'->cont (ys.map ab) P'->RR (.ref Dd) C (.ok .next) s')
  (h:xH (λv P r=>bE n test ((lG (sc.names.map (mh c.env.scope.names)) l).set k (some v)) P oA λb P=>aV b (bE n (aC K f (iP c.env.scope.names sc.names) elt) ((lG (sc.names.map (mh c.env.scope.names)) l).set k (some v)) P oA λv P=>r (some v) P) (r none P)) (λP'=>iC P'->rd P' a=some o) vs [] P cont):
  wpAny (MM wd) c.A (newList []) (λacc jC=>wpAny (MM wd) c.A (newFunctionEnv sc c.env.globals (lH c.env sc.names []) [] c.env.qual none .none (some c.env)) (λcenv zq=>codeAny (MM wd) c.A (.compStart (.ListComp elt [⟨.Name x px,it,ifs,0⟩] sc pos) 0 (.ref s.heap.objs.size) acc { cenv with scope:=relabel sc c.env }) (RR acc cenv.locals) zq) E jC) E { s with heap:=s.heap.push ob }:=by
 obtain⟨m0,G0,D0,S0⟩:=S;refine wpAny_newObj_type (wpAny_newFunctionEnv L.M1 (by intro y hy;simp at hy) (λh₁ B9 uL=>?_) L.knd);dsimp only at B9 uL ⊢;have z1:(s.heap.push ob).objs.size=s.heap.objs.size+1:=jc ..;generalize hH2:(s.heap.push ob).push { cls:=.type "list",dict:=none,data:=.seq ([]:List Va).toArray }=H2 at B9 uL ⊢;have z2:H2.objs.size=s.heap.objs.size+2:=by rw[<-hH2,jc,z1]
 have q1:(s.heap.push ob).objs.size<H2.objs.size:=by lia
 have q2:s.heap.objs.size<(s.heap.push ob).objs.size:=by lia
 have q3:=gy q2 q1;have old:gS s.heap h₁:=λb o e=>uL.extBut b o (gq (gy (fy e) q3)) (ek _ (hH2▸ek _ (ek _ e)));have hI:h₁.get? s.heap.objs.size=some ob:=uL.extBut _ _ (gq q3) (ek _ (hH2▸ek _ (fj _ hfr)));have hD:h₁.get? (s.heap.push ob).objs.size=some { cls:=.type "list",dict:=none,data:=.seq ([]:List Va).toArray }:=uL.extBut _ _ (gq q1) (ek _ (hH2▸fj _ rfl));obtain⟨O1,hC0,hI0,hD0,hcell,S1⟩:=Ku (s':={ s with heap:=h₁,toks:=s.toks+([]:List (Str × Va)).length }) O S0 L (I:=s.heap.objs.size) (Dd:=(s.heap.push ob).objs.size) (C:=H2.objs.size) (pin:=pin) (f7 _) (ja q2) (ja q3) (gq q2) (jr q3) (jr q1) old rfl rfl ⟨ob,hI,hp0⟩ ⟨_,hD,0,rfl⟩ B9;have hx:(iP c.env.scope.names sc.names)[k]?=some (x,.local):=A8 (ns:=c.env.scope.names) L.at_;have haI:a≠s.heap.objs.size:=by obtain⟨z,hz⟩:=haS;exact gq (fy hz)
 have loop:=BS (sc:=sc) (sc':=sc) (pos:=pos) (px:=px) (elt:=elt) (it:=it) (R:=RR (.ref (s.heap.push ob).objs.size) H2.objs.size) (cc:={ c with env:=compEnvC sc (lH c.env sc.names []) H2.objs.size c.env,F:=G0 }) H HT T hrel haI (D:=(s.heap.push ob).objs.size) (gq q2) O1 hI0 Rm (ns:=iP c.env.scope.names sc.names) (oE O sc) hx hif hlen
  (λys l P s' m G Dm S' hc=>by obtain⟨e1,e2,e3,e4,e5⟩:=Hh S0 S' hC0 hD0 (jr q1) hcell;exact hR _ _ _ ys P m e2 e3 e4 e1 e5 hc) S1 (λq=>rfl) hP h
 exact codeAny_compStart_list loop (hsl _ rfl ⟨ob,hI,hp0⟩ _ _ _ _ rfl loop)
set_option tactic.hygienic true in
theorem KV{a:Ad}{k:Nat}{caps:List (Op Nat)}{elt test:T}{Q:VQ}(h:(match (Value.ref a) with
  | .ref a=>(match rd P a with
   | some (.list t vs)=>vs.length<big/\xH (λv P r=>bE n test ((lG caps l).set k (some v)) P oA λb P=>aV b (bE n elt ((lG caps l).set k (some v)) P oA λv P=>r (some v) P) (r none P)) (λP'=>iC P'->rd P' a=some (.list t vs)) vs [] P (λacc P=>cE P (.list (0,0) acc) Q)
   | some (.tup vs)=>vs.length<big/\xH (λv P r=>bE n test ((lG caps l).set k (some v)) P oA λb P=>aV b (bE n elt ((lG caps l).set k (some v)) P oA λv P=>r (some v) P) (r none P)) (λP'=>iC P'->rd P' a=some (.tup vs)) vs [] P (λacc P=>cE P (.list (0,0) acc) Q)
   | _=>False)
  | _=>False)):(∃ t vs,rd P a=some (.list t vs)/\vs.length<big/\xH (λv P r=>bE n test ((lG caps l).set k (some v)) P oA λb P=>aV b (bE n elt ((lG caps l).set k (some v)) P oA λv P=>r (some v) P) (r none P)) (λP'=>iC P'->rd P' a=some (.list t vs)) vs [] P (λacc P=>cE P (.list (0,0) acc) Q))\/(∃ vs,rd P a=some (.tup vs)/\vs.length<big/\xH (λv P r=>bE n test ((lG caps l).set k (some v)) P oA λb P=>aV b (bE n elt ((lG caps l).set k (some v)) P oA λv P=>r (some v) P) (r none P)) (λP'=>iC P'->rd P' a=some (.tup vs)) vs [] P (λacc P=>cE P (.list (0,0) acc) Q)):=by
 cases hP:rd P a with
 | none=>dsimp only at h;rw[hP] at h;exact ck h
 | some o=>
 dsimp only at h;rw[hP] at h;cases o<;>first|exact ck h|skip
 ·exact .inl ⟨_,_,rfl,h⟩
 ·exact .inr ⟨_,rfl,h⟩
set_option tactic.hygienic true in
theorem Ak{f:Nat}(H:dM f)(HT:sd f)(O:bM c)(Rm:bP n c.A)(S:St c l P s){k:Nat}{x:Str}{px pos cpos:Pos}{elt it:Expr}{ifs:List Expr}{sc:Scope}{test:T}{use:Op (Va->Sem Unit)}{Q':VS}
  (hset:isSet it=false) (hk:sc.names.findIdx? (λq=>q.1==x)=some k) (hif:(ifs=[]/\test=.con (.bool true))\/∃ t,ifs=[t]/\test=aC K f (iP c.env.scope.names sc.names) t) (hlc:AG c.env.scope.names sc k=true)
  (h:bE n (.lc (sc.names.map (mh c.env.scope.names)) k (aC K f c.env.scope.names it) (aC K f (iP c.env.scope.names sc.names) elt) test) l P X Q)
  (hR:∀ Dd C (s':Sh) (ys:List Va) (P':PH) (mC:Str->Op Va),c.env.locals≠C->(∀ Lf,c.aZ.frame=some Lf->Lf≠C)->c.F C=none->P' Dd=none->St (pinned c C (dH mC)) l (upd P' Dd (.list (0,0) (ys.map ab))) s'->cE P' (.list (0,0) (ys.map ab)) Q->compPost (MM wd) c.A (Exc c X) use Q' (.ref Dd) C (.ok .next) s'):
  wpAny (MM wd) c.A (comprehension (.ListComp elt [⟨.Name x px,it,ifs,0⟩] sc pos) sc c.env cpos (newList []) false (eval it c.env) use) Q' (Exc c X) s:=by
 have L:=KU hlc hk;refine wpAny_comprehension_free rfl (kQ hset _) (uz λq hq hf=>Option.isSome_iff_exists.mpr (O.cA _ (L.Dl q hq hf))) L.knd (λy hy hl=>fK L.nd (by obtain⟨y1,y2⟩:=y;subst hl;exact hy)) (bG (H it c l P s X _ n O Rm S h) λv aP aF aH h₁=>?_);replace h₁:=h₁ (yU aH O);cases v<;>first|exact ck h₁|skip
 rename_i a;rcases KV h₁ with⟨t,vs,hP,hz,bA⟩|⟨vs,hP,hz,bA⟩
 ·obtain⟨us,kk,e1,e2⟩:=nE aH O hP
  refine wpAny_pyIter_list (bK e1) ?_;exact uC (pin:=qT a) H HT O Rm aH vG (λc l P s F d O S hP=>nE S O hP) L ⟨rfl,rfl⟩ rfl ⟨_,e1⟩ hif hz hP
   (λh' _ ⟨z,hz,hp⟩ Q E A s' e q=>wpAny_pyIter_listiter (l:=a) (i:=0) ⟨z,by rw[e];exact hz,hp.1,hp.2⟩ q) hR bA
 ·obtain⟨us,kk,e1,e2⟩:=zg aH O hP
  refine wpAny_pyIter_tuple ⟨_,e1,rfl,kk,rfl⟩ ?_;exact uC (pin:=R7 a) H HT O Rm aH x8 (λc l P s F d O S hP=>zg S O hP) L ⟨rfl,rfl⟩ rfl ⟨_,e1⟩ hif hz hP
   (λh' _ ⟨z,hz,hp⟩ Q E A s' e q=>wpAny_pyIter_tupleiter (t:=a) (i:=0) ⟨z,by rw[e];exact hz,hp.1,hp.2⟩ q) hR bA
theorem Po{f:Nat}(H:dM f)(HT:sd f):∀(elt it:Expr) (x:Str) (px pos:Pos) (ifs:List Expr) (sc:Scope) (k:Nat) (test:T) (c:Fx) (l:Lv) (P:PH) (s:Sh) (X:XP) (Q:VQ) (n:Nat),bM c->bP n c.A->St c l P s->isSet it=false->sc.names.findIdx? (λq=>q.1==x)=some k->((ifs=[]/\test=.con (.bool true))\/∃ t,ifs=[t]/\test=aC K f (iP c.env.scope.names sc.names) t)->AG c.env.scope.names sc k=true->bE n (.lc (sc.names.map (mh c.env.scope.names)) k (aC K f c.env.scope.names it) (aC K f (iP c.env.scope.names sc.names) elt) test) l P X Q->kH c l X Q (.ListComp elt [⟨.Name x px,it,ifs,0⟩] sc pos) s:=by intro elt it x px pos ifs sc k test c l P s X Q n O Rm S hset hk hif hlc h;show wpAny _ _ (eval _ _) _ _ _;rw[eval_ListComp];refine Ak (use:=none) H HT O Rm S hset hk hif hlc h λDd C s' ys P' mC h1 h2 h3 h4 S' hq=>?_;obtain⟨m',G',D',S''⟩:=id S';obtain⟨_,oC,eC,pC⟩:=S''.sat.hid _ _ S''.kE;exact⟨mC,LCg.NsObj.ns pC eC,λh' sb=>⟨_,S'.ME h1 h2 h3 sb,hq Dd h4⟩⟩
end
section
variable{cc:Fx}{X:XP}{Q:VQ}{N:NP}{R:VQ}{n:Nat}{I:Ad}{p p':Obj->Prop}
set_option tactic.hygienic true in
theorem Jw(H:dM 30)(O:bM c)(Rm:bP n c.A)(S:St c l P s)(he:c.aZ=c.env){x y g:Str}{px py tp gp cp pos:Pos}{k:Nat}{m:Expr}{body:List Stmt}{tb:U}{i j:Nat}(hi:idxOf K c.env.scope.names (.Name x px)=some i)(hj:idxOf K c.env.scope.names (.Name y py)=some j)(hg:dP K c.env.scope.names g=.con (.type "enumerate"))(hb:JS n c X tb body)
  (h:wpS n (aK c.env.scope.names) (.rW i j (aC K 30 c.env.scope.names m) tb) l P X N R):bN c X N R (.For (.Tuple [.Name x px,.Name y py] k tp) (.Call (.Name g gp) [m] [] cp) body [] pos) s:=by
 refine wpAny_For (An H O Rm S hg h λv aP aF aH h₁=>?_) (kQ rfl _);cases v<;>first|exact ck h₁|skip
 rename_i a;obtain⟨t,vs,hP,h₁⟩:=J5 (F:=λt vs=>vs.length<big/\cL (pV (λq v l P k=>wpS n (aK c.env.scope.names) tb ((l.set i (some (.int q 0))).set j (some v)) (jV (aK c.env.scope.names) j (jV (aK c.env.scope.names) i P)) X k R) vs) (λP'=>P' a=some (.list t vs)) ((List.range vs.length).map .ref) l aP N) h₁;obtain⟨us,kk,e1,e2⟩:=eT aH hP;refine call_enumerate_list (bK e1) λh' hE hI hsz hk=>wpAny_pyIter_enum hE ?_;obtain⟨oi,hoi,hcl,hdt⟩:=hI;have hfr:oi.isFreed=false:=Obj.isFreed_of_fields hdt;have z1:(aF.heap.push oi).objs.size=aF.heap.objs.size+1:=jc ..;have bU:St (pinned c aF.heap.objs.size (qT a 0)) l aP { aF with heap:=aF.heap.push oi }:=aH.pin (s':={ aF with heap:=aF.heap.push oi }) (λb o e=>ek _ e) ⟨by show _<=(aF.heap.push oi).objs.size;lia,rfl,rfl⟩ (f7 _) ⟨oi,fj _ hfr,hcl,hdt⟩
 have kp:gS (aF.heap.push oi) h':=λb o e=>by
  by_cases hb:b=aF.heap.objs.size
  ·subst hb
   rw[fj _ hfr] at e;obtain rfl:=kr e;exact hoi
  ·exact hk b o (by rw[Heap.get?_push_ne _ _ _ hb] at e;exact e)
 have dS:St (lJ c aF.heap.objs.size (aF.heap.objs.size+1) a 0) l aP { aF with heap:=h' }:=bU.pin (s':={ aF with heap:=h' }) kp ⟨by show(aF.heap.push oi).objs.size<=h'.objs.size;lia,rfl,rfl⟩ (by show(aF.heap.push oi).objs.size<=_;lia) ⟨_,hE,.none,rfl⟩;have P1:=λp=>O.pin (p:=p) aH (f7 _);have hn2:=(O.pin (p:=λu=>True) aH (ki _)).2
 have FO:∀ i,bM (lJ c aF.heap.objs.size (aF.heap.objs.size+1) a i):=λi=>by have Qa:St (pinned c aF.heap.objs.size (qT a i)) l aP { aF with heap:=aF.heap.push { cls:=.type "list_iterator",data:=.fields #[.ref a,.int i 0] } }:=aH.pin (s':={ aF with heap:=aF.heap.push _ }) (λb o e=>ek _ e) ⟨by simp [Heap.push],rfl,rfl⟩ (f7 _) ⟨_,fj _ rfl,rfl,rfl⟩;exact((P1 (qT a i)).1.pin (p:=B3 aF.heap.objs.size i) Qa (gi (jc ..))).1
 refine B4 (gq (Nat.lt_succ_self _)) O he (P1 λu=>True).2 hn2 FO (es:=[.Name x px,.Name y py]) (i:=i) (j:=j) ?_ (λq v l P s k S' h'=>?_) dS hP h₁.2
 ·exact Dq hi (Dq hj rfl)
 ·exact hb (lJ c _ _ a (q+1)) _ _ _ _ _ rfl rfl rfl (FO _) S' h'
set_option tactic.hygienic true in
theorem JF(O:bM c){x:Str}{p:Pos}{v:Expr}{line:Nat}(hl:yK c.env.scope.names x p v=true):∃ elt gens sc vp,v=.ListComp elt gens sc vp/\c.env.scope.names.lookup x=some .local/\swapsWith v (some (.Name x p)) line c.env=pure true:=by
 cases v<;>first|cases hl|skip
 rename_i elt gens sc vp;replace hl:(c.env.scope.names.lookup x==some .local&&p.line==vp.line&&!(sc.names.any λq=>q.1==x&&(q.2==.local||q.2==.cell)))=true:=hl;simp only[e9] at hl;have hb:(c.env.blockKind==ScopeKind.function)=true:=by unfold Env.blockKind;rw[O.knd];rfl
 refine⟨elt,gens,sc,vp,rfl,by simpa using hl.1.1,?_⟩;have h1:(c.env.kindOf x==some NameKind.local)=true:=hl.1.1;have h2:(p.line==(Expr.ListComp elt gens sc vp).pos.line)=true:=hl.1.2;have h3:(!(sc.names.any λx_1=>match x_1 with|(n,k)=>n==x&&(k==.local||k==.cell)))=true:=hl.2;show pure (c.env.blockKind==ScopeKind.function&&c.env.kindOf x==some NameKind.local&&p.line==(Expr.ListComp elt gens sc vp).pos.line&&!(sc.names.any λx_1=>match x_1 with|(n,k)=>n==x&&(k==.local||k==.cell)))=_;rw[hb,h1,h2,h3];rfl
theorem Jv{f:Nat}(hf:f+1=30)(H:dM f)(HT:sd f)(O:bM c)(Rm:bP n c.A)(S:St c l P s)(he:c.aZ=c.env){x:Str}{p pos:Pos}{v:Expr}{i:Nat}(hsw:yK c.env.scope.names x p v=true)(hi:idxOf K c.env.scope.names (.Name x p)=some i)
  (h:wpS n (aK c.env.scope.names) (.dQ i (aC K 30 c.env.scope.names v)) l P X N R):bN c X N R (.Assign [.Name x p] v pos) s:=by
 obtain⟨elt,gens,sc,vp,rfl,hk,hs⟩:=JF O (line:=pos.line) hsw
 have hx:c.env.scope.names[i]?=some (x,.local):=by
  rcases uO hi with q|q
  ·exact q
  ·rw[aT O.nd q] at hk;cases hk
 replace h:bE n (aC K 30 c.env.scope.names (.ListComp elt gens sc vp)) l P X λv P=>N (l.set i (some v)) P:=by have h':bE n (aC K 30 c.env.scope.names (.ListComp elt gens sc vp)) l P X λv P=>N (l.set i (some v)) (jV (aK c.env.scope.names) i P):=h;rw[show(λ(v:Va) P=>N (l.set i (some v)) (jV (aK c.env.scope.names) i P))=λv P=>N (l.set i (some v)) P from by funext v P;rw[ru hx]] at h';exact h'
 rw[<-hf] at h
 have fin:∀{ifs:List Expr} {y:Str} {py:Pos} {it:Expr} {k:Nat} {test:T},gens=[⟨.Name y py,it,ifs,0⟩]->isSet it=false->sc.names.findIdx? (λq=>q.1==y)=some k->((ifs=[]/\test=.con (.bool true))\/∃ t,ifs=[t]/\test=aC K f (iP c.env.scope.names sc.names) t)->AG c.env.scope.names sc k=true->bE n (.lc (sc.names.map (mh c.env.scope.names)) k (aC K f c.env.scope.names it) (aC K f (iP c.env.scope.names sc.names) elt) test) l P X (λv P=>N (l.set i (some v)) P)->bN c X N R (.Assign [.Name x p] (.ListComp elt gens sc vp) pos) s:=λ{ifs y py it k test} hg hset hky hif hlc h9=>by
  subst hg;unfold bN;rw[exec_Assign_Name_used _ _ _ _ hs];refine af (b9 (af ?_));show wpAny _ c.A (do let _<-comprehension (.ListComp elt [⟨.Name y py,it,ifs,0⟩] sc vp) sc c.env _ (newList []) false (eval it c.env) (some (assign (.Name x p) c.env))) _ _ s;refine af (ak (Ak (Q':=λj s'=>Fl c N R .next s') H HT O Rm S hset hky hif hlc h9 λDd C s' ys P' mC h1 h2 h3 h4 S' hq=>?_) (λj s' hq=>aq (aq hq)) λj j e=>e);show wpAny _ c.A (assign (.Name x p) c.env (.ref Dd)) _ _ _
  have O':bM (pinned c C (dH mC)):=by
   obtain⟨m',G',D',S''⟩:=id S';refine⟨O.hA,O.hh,O.knd,O.qS,O.JT,O.nd,(aE h1).trans O.nF,λhc y a e1 e2=>(aE ?_).trans (O.cF hc y a e1 e2),O.cI,O.fk,O.X,O.top,O.big,O.st,λe hm=>?_,O.cA,O.fl,O.NR,O.Nz,O.GX⟩
   ·obtain⟨v,hv⟩:=S''.nZ y a e1
    exact BB S''.sat S''.kE hv
   ·obtain⟨q1,Li,mi,q2,q3⟩:=O.frs e hm
    exact⟨q1,Li,mi,q2,(aE (λz=>by rw[z,h3] at q3;cases q3)).trans q3⟩
  refine jm (St.store (c:=pinned c C (dH mC)) S' O' hx (.ref Dd) λs'' S''=>?_);obtain⟨m',G',D',S3⟩:=id S'';obtain⟨_,oC,eC,pC⟩:=S3.sat.hid _ _ S3.kE;exact⟨mC,LCg.NsObj.ns pC eC,λh' sb=>(S''.ME h1 h2 h3 sb).next (hq Dd h4)⟩
 obtain⟨y,py,it,ifs,k,t,hg,h1,h2,h3,h4,h5⟩:=xu h;exact fin hg h1 h2 h4 h3 h5
end
section
variable{cc:Fx}{X:XP}{Q:VQ}{N:NP}{R:VQ}{n:Nat}{I:Ad}{p p':Obj->Prop}
theorem p9{e:Op Expr}{r:List (Op Expr)}{ns:List Str}(h:jI (e::r)=some ns):∃ k i p ns',e=some (.Constant (.str k) i p)/\jI r=some ns'/\ns=k::ns':=by obtain⟨k,h1,h2⟩:=dg h;obtain⟨x,rfl,h3⟩:=dg h1;obtain⟨i,p,rfl⟩:=Bb h3;obtain⟨ns',h4,h5⟩:=dw h2;exact⟨k,i,p,ns',rfl,h4,h5.symm⟩
theorem yI{r:List (Op Expr)}{ns:List Str}(h:jI r=some ns):r.all (·.isSome)=true:=by
 induction r generalizing ns with
 | nil=>rfl
 | cons e r ih=>obtain⟨k,i,p,ns',rfl,h2,rfl⟩:=p9 h;rw[List.all_cons,ih h2];rfl
theorem Hw{f:Nat}(H:dM f)(O:bM c)(Rm:bP n c.A){pos:Pos}:∀(ks:List (Op Expr)) (vs:List Expr) (ns:List Str) (R':List Va->PH->Prop) (P:PH) (s:Sh),jI ks=some ns->ks.length=vs.length->St c l P s->Gi n (mj (aC K f c.env.scope.names) vs) l P X R'->wpAny (MM wd) c.A (evalPairs (pairTrees ks vs c.env pos)) (λprs s'=>∃ us P',St c l P' s'/\R' (us.map ab) P'/\us.length=ns.length/\Carries (strKind pw wd) prs (ns.zip us)) (Exc c X) s:=by
 intro rr;induction rr with
 | nil=>intro vs ns R' P s hn hl S h;obtain rfl:=List.length_eq_zero_iff.mp hl.symm;obtain rfl:=kr hn;exact pairTrees_nil_walk ⟨[],P,S,h,rfl,trivial⟩
 | cons e ks ih=>intro vs ns R' P s hn hl S h;obtain⟨v,vs,rfl⟩:=jw hl.symm;obtain⟨k,i,p,ns',rfl,h2,rfl⟩:=p9 hn;refine pairTrees_cons_walk (wpAny_Constant_str ?_);refine bG (H v c l P _ X _ n O Rm (S.toks _) h) λu aP aF aH h₁=>?_;refine ak (ih vs ns' _ aP aF h2 (by simpa using hl) aH h₁) (λprs cD bA=>?_) λq q x=>x;obtain⟨us,gT,bU,hR,hlen,hc⟩:=bA;exact⟨u::us,gT,bU,hR,by simp [hlen],bz _ wd k _,rfl,hc⟩
theorem Jr{f:Nat}(H:dM f):∀(ks:List (Op Expr)) (vs:List Expr) (pos:Pos) (ns:List Str) (c:Fx) (l:Lv) (P:PH) (s:Sh) (X:XP) (Q:VQ) (n:Nat),bM c->bP n c.A->St c l P s->jI ks=some ns->ns.length=vs.length->ks.length=vs.length->bE n (.Am ns (fW (aC K f c.env.scope.names) vs)) l P X Q->kH c l X Q (.Dict ks vs pos) s:=by
 intro ks vs pos ns c l P s X Q n O Rm S hn hz hz2 h;obtain⟨⟨h1,h2,h3⟩,h⟩:=h;obtain⟨o',e1,e2⟩:=Heap.dictOf_iff.mp (Heap.DictOf.new (knd:=strKind pw wd) s.heap);obtain⟨hPd,aH⟩:=S.uG (t:=s.toks) (o:=.dict (0,0) []) cM (f7 _) e1 rfl (λF d e=>⟨⟨o',[],e,e2,rfl⟩,λz=>absurd z ()⟩);have h:=(dR (h _ hPd)).2;refine wpAny_Dict_walk (knd:=strKind pw wd) (yI hn) hz2 (by rintro rfl;simp at hz2;lia) (by lia) (ak (Hw H O Rm ks vs ns _ _ _ hn hz2 aH h) (λprs cD bA=>?_) λq q x=>x);obtain⟨us,gT,bU,⟨hlen,hd,hQ⟩,hl,hc⟩:=bA;obtain⟨_,ob,kvs',g,hi,e⟩:=iA bU O hd;have hk:kvs'=[]:=by simpa using e
 subst hk;have nd:((ns.zip us).map (·.1)).Nodup:=by rw[List.map_fst_zip (by lia)];exact h1
 refine⟨ns.zip us,hc,Heap.dictOf_iff.mpr ⟨ob,g,hi⟩,λh' hd' sb=>?_⟩;rw[merged_nil_of_nodup _ nd] at hd';obtain⟨TU,x1,x2⟩:=Heap.dictOf_iff.mp hd';have ez:(ns.zip us).map kI=ns.zip (us.map ab):=by rw[List.zip_map_right];rfl
 have:=bU.set (s':={ cD with heap:=h',toks:=cD.toks+prs.length }) (o':=.dict (0,0) (ns.zip (us.map ab))) (vC sb) ⟨vD sb,rfl,rfl⟩ hd rfl rfl λF dd=>⟨⟨TU,_,x1,x2,ez⟩,λz=>absurd z ()⟩
 exact⟨_,this,hQ⟩
end
section
theorem vF:∀ es:List (Nat × Ad),TriplesOk (zb es):=by
 intro rr;induction rr with
 | nil=>exact trivial
 | cons _ r ih=>exact ih
theorem zQ{pos:Pos}(hc:pos.col<1000):∀ es:List (Nat × Ad),codeAmong pos (zb es)=(es.lookup (pos.line*1000+pos.col)).map .ref:=by
 intro rr;induction rr with
 | nil=>exact rfl
 | cons e r ih=>
  have ih:=ih;show(if (((e.1/1000:Nat):Int)==(pos.line:Int)&&((e.1%1000:Nat):Int)==(pos.col:Int))=true then some (.ref e.2) else codeAmong pos (zb r))=_;obtain⟨k,a⟩:=e;rw[f6,ih];by_cases hk:pos.line*1000+pos.col=k
  ·subst hk
   rw[ai]
   ·simp
   ·simp only[e9,az]
    constructor<;>lia
  ·rw[aa,bu hk]
   simp only[e9,az,not_and];intro h1 h2;apply hk;lia
theorem LD{es:List (Nat × Ad)}{pos:Pos}{a:Ad}(hc:pos.col<1000):(zb es).toArray++#[rawInt pos.line,rawInt pos.col,.ref a]=(zb (es++[(pos.line*1000+pos.col,a)])).toArray:=by
 unfold zb;rw[List.flatMap_append];have h1:(pos.line*1000+pos.col)/1000=pos.line:=by lia
 have h2:(pos.line*1000+pos.col)%1000=pos.col:=by lia
 simp;constructor<;>congr 1<;>lia
theorem xN{α:Type}{p:α->Bool}{x:α}{l:List α}(h:x∈l.takeWhile p):p x=true:=dz List.all_takeWhile x h
theorem wO{α:Type}{p:α->Bool}{l:List α}{i:Nat}{x:α}(h:(l.takeWhile p)[i]?=some x):l[i]?=some x:=by
 obtain⟨t,e⟩:=List.takeWhile_prefix (l:=l) p;have q:(l.takeWhile p++t)[i]?=some x:=(List.getElem?_append_left (List.getElem?_eq_some_iff.mp h).1).trans h
 rwa [e] at q
structure P8(ns:NS)(sc:Scope)(pos:Pos):Prop where
 nms:ns.map (·.1)=gR (pos.line*1000+pos.col)
 col:pos.col<1000
 len:sc.names.length<10
 knd:sc.kind=.function
 gen:sc.isGenerator=false
 co:sc.isCoroutine=false
 rest:∀ q∈sc.names.dropWhile (λq=>q.2==.free),q.2=.globalImplicit
 nd:(sc.names.map (·.1)).Nodup
 Dl:∀ q∈sc.names,q.2=.free->ns.lookup q.1=some .cell
theorem HY{ns:NS}{sc:Scope}{pos:Pos}(h:qU ns sc pos=true):P8 ns sc pos:=by
 unfold qU at h;simp only[e9,az,List.all_eq_true,bne_iff_ne,ne_eq,decide_eq_true_eq,j4,i6] at h;obtain⟨⟨⟨⟨⟨⟨⟨⟨h1,h2⟩,h3⟩,h4⟩,h5⟩,h6⟩,h7⟩,h8⟩,h9⟩:=h;refine⟨h1,h2,h3,h4,h5,h6,h7,h8,λq hq hf=>?_⟩;rcases h9 q hq with h|h
 ·exact absurd hf h
 ·exact h
theorem HM{ns:NS}{y:Str}{k:NameKind}(h:ns.lookup y=some k):∃ i,ns.findIdx? (λp=>p.1==y)=some i:=by
 cases q:ns.findIdx? (λp=>p.1==y) with
 | some i=>exact⟨i,rfl⟩
 | none=>have:=List.findIdx?_eq_none_iff.mp q _ (mem_of_lookup h);simp at this
section
variable{cc:Fx}{X:XP}{Q:VQ}{N:NP}{R:VQ}{n:Nat}{I:Ad}{p p':Obj->Prop}
theorem Kq(O:bM c)(S:lT c l P s m G D):∀(fr:NS) (vs:List Va),(∀ q∈fr,q.2=.free/\c.env.scope.names.lookup q.1=some .cell)->(fr.map λq=>(c.env.scope.names.findIdx? (λp=>p.1==q.1)).getD 0).map (λi=>(l[i]?).join)=vs.map some->∃ cs:List (Ad × Va),cs.map (λq=>ab q.2)=vs/\(∀ q∈cs,G q.1=some (eS (some q.2)))/\cs.length=fr.length/\∀(i:Nat) (q:Ad × Va),cs[i]?=some q->∃ y,fr[i]?=some (y,.free)/\c.env.cells.lookup y=some q.1:=by
 intro rr;induction rr with
 | nil=>
  intro vs u h;have:vs=[]:=by simpa using h.symm
  exact⟨[],by simp [this],by simp,rfl,by simp⟩
 | cons yk r ih=>
  obtain⟨y,k⟩:=yk;intro vs hf h;obtain⟨h1,h2⟩:=hf _ (.head _);obtain rfl:k=.free:=h1;cases vs with
  | nil=>simp at h
  | cons v vs=>
   rw[gn,gn,gn,List.cons.injEq] at h;obtain⟨cs,e1,e2,e3,e4⟩:=ih vs (λq hq=>hf q (.tail _ hq)) h.2;obtain⟨i,hi⟩:=HM h2;have hv:=h.1;rw[show c.env.scope.names.findIdx? (λp=>p.1==(y,NameKind.free).1)=some i from hi,Option.getD_some] at hv
   have hli:l[i]?=some (some v):=by
    cases z:l[i]? with
    | none=>rw[z] at hv;cases hv
    | some z'=>rw[z] at hv;simp at hv;rw[hv]
   obtain⟨kk,hkk⟩:=s8 hi;have hkc:kk=.cell:=kr ((aT O.nd hkk).symm.trans h2);subst hkc;obtain⟨y',k',hy',b⟩:=S.lv i v hli;rw[hkk] at hy';cases hy';rcases b with⟨q,_⟩|⟨_,a,v',ea,ga,q⟩
   ·cases q
   ·refine⟨(a,v')::cs,by simp [e1,q],λq' hq=>?_,by simp [e3],λj q' hj=>?_⟩
    ·rcases ku hq with rfl|hq
     ·exact ga
     ·exact e2 _ hq
    ·cases j with
     | zero=>simp at hj;subst hj;exact⟨y,rfl,ea⟩
     | succ j=>simp only[List.getElem?_cons_succ] at hj ⊢;exact e4 j q' hj
set_option tactic.hygienic true in
theorem LX{f:Nat}:∀(body:Expr) (sc:Scope) (pos:Pos) (c:Fx) (l:Lv) (P:PH) (s:Sh) (X:XP) (Q:VQ) (n:Nat),bM c->bP n c.A->St c l P s->qU c.env.scope.names sc pos=true->bE n (.lam (pos.line*1000+pos.col) ((sc.names.takeWhile λq=>q.2==.free).map λq=>(c.env.scope.names.findIdx? (λp=>p.1==q.1)).getD 0) (aC K f sc.names body)) l P X Q->kH c l X Q (.Lambda ⟨[],[],none,[],[],none,[]⟩ body sc pos) s:=by
 intro body sc pos c l P s X Q n O Rm S hl h;have L:=HY hl;obtain⟨hb,vs,hvs,h⟩:=h;obtain⟨hcode,hqual⟩:=O.NR _ L.nms;have Dl:∀ q∈sc.names,q.2=.free->(c.env.cells.lookup q.1).isSome=true:=λq hq hf=>Option.isSome_iff_exists.mpr (O.cA _ (L.Dl q hq hf));have hcl:=uz (env:=c.env) (sc:=sc) Dl;obtain⟨m,G,D,S⟩:=S;obtain⟨cs,e1,e2,e3,e4⟩:=Kq O S (sc.names.takeWhile λq=>q.2==.free) vs (λq hq=>by
  have h1:=xN hq;have h2:q∈sc.names:=(List.takeWhile_sublist _).subset hq;have h3:q.2=.free:=by simpa using h1
  exact⟨h3,L.Dl q h2 h3⟩) hvs
 have key:∀(pm:Va) (c':Ad) (ctv:Va) (o:Obj),o=kla_obj "<lambda>" (c.env.qual++"<lambda>") ⟨[],[],none,[],[],none,[]⟩ body sc (lH c.env sc.names []) pm c' ctv->Mn K (pos.line*1000+pos.col) o cs (.ref c'::vs):=λpm c' ctv o ho=>by
  subst ho;refine⟨_,c',body,f,rfl,by rw[e1],rfl,hqual,rfl,hb,rfl,rfl,rfl,rfl,rfl,L.knd,L.gen,L.co,L.nd,λq hq=>?_,λi q hi=>?_,λx a hx=>?_,λx y a hx hy=>?_,λk hk=>?_⟩
  ·have hq':q∈sc.names.takeWhile (λq=>q.2==.free)++sc.names.dropWhile (λq=>q.2==.free):=by rw[List.takeWhile_append_dropWhile];exact hq
   rcases cy hq' with h|h
   ·have h1:=xN h
    exact .inl (by simpa using h1)
   ·exact .inr (L.rest q h)
  ·obtain⟨y,y1,y2⟩:=e4 i q hi
   have y3:=wO y1;refine⟨y,y3,?_⟩;obtain⟨a',ha'⟩:=cz (qN (env:=c.env) (y:=y) sc.names [] (.inl (g4 y3)));have:=(pS ha' Dl).2;rw[y2] at this;obtain rfl:=kr this;exact ha'
  ·obtain⟨h1,h2⟩:=pS hx Dl
   have hq':(x,NameKind.free)∈sc.names.takeWhile (λq=>q.2==.free)++sc.names.dropWhile (λq=>q.2==.free):=by rw[List.takeWhile_append_dropWhile];exact h1
   rcases cy hq' with h|h
   ·obtain⟨i,hi⟩:=List.mem_iff_getElem?.mp h
    have hlt:i<cs.length:=by rw[e3];exact(List.getElem?_eq_some_iff.mp hi).1
    obtain⟨y,y1,y2⟩:=e4 i _ (f9 hlt);rw[hi] at y1;cases y1;rw[h2] at y2;exact⟨cs[i],j9 hlt,(kr y2).symm⟩
   ·have:=L.rest _ h
    cases this
  ·exact O.cI x y a (pS hx Dl).2 (pS hy Dl).2
  ·have h1:=aj List.length hk
   rw[ef] at h1;have h2:=L.len;have h3:10<=(gR k).length:=by unfold gR;split<;>decide
   rw[<-h1] at h3;exact absurd h2 (Nat.not_lt.mpr h3)
 have cells:∀ q∈cs,∃ p,G q.1=some p/\p=λoc:Obj=>oc.data=.cell (some q.2):=λq hq=>⟨_,e2 q hq,rfl⟩
 split at h
 ·rename_i es hP
  have hrel:=S.sat.rel _ _ hP;have hC:CodeHd s.heap (eZ (pos.line*1000+pos.col)) (dO (pos.line*1000+pos.col)):=(O.GX.GX _).keeps S.sat.stay;have hg:s.heap.Ns mainGlobals c.mg:=O.top.g.keeps S.sat.stay;obtain⟨bm,ob,b1,b2,b3,b4,b5,b6⟩:=O.GX.UZ;have hbP:bm≠dO (pos.line*1000+pos.col):=λq=>by have:=hrel.1;rw[<-q,b3] at this;cases this
  have hbG:bm≠mainGlobals:=λq=>by obtain⟨o,es,ep,e,hd,_⟩:=O.top.g;rw[q,e] at b3;obtain rfl:=kr b3;rw[hd] at b6;cases b6
  have hgP:mainGlobals≠dO (pos.line*1000+pos.col):=λq=>by obtain⟨o,es,ep,e,hd,_⟩:=O.top.g;have:=hrel.1;rw[<-q,e] at this;cases this
  have hbat:s.heap.BuiltinsAt c.mg (dO (pos.line*1000+pos.col)):=⟨bm,ob,b1,b2,hbG,hbP,S.sat.stay _ _ b3,b4,b5,b6⟩
  refine kla_eval rfl ?_;split at h
  ·rename_i cd hcd
   obtain⟨hPc,hQ⟩:=h;refine kla_makeFunctionHit (mg:=c.mg) hcl O.qS hg hcode hC hrel.2 (vF es) (by rw[zQ L.col,hcd];rfl) hbat λctv h' tk hk hsz=>?_;obtain⟨z1,z2⟩:=S.sat.lt hsz;refine⟨_,⟨m,G,D,S.moved (S.sat.alloc (a:=h'.objs.size) (o:=.lam (pos.line*1000+pos.col) (.ref cd::vs)) (.of_keep S.sat.stay λb o e=>ek _ (hk b o e)) z1 z2 rfl ⟨_,cs,fj _ rfl,key _ _ _ _ rfl,cells⟩) rfl rfl⟩,hQ _ (S.sat.fresh z1).1⟩
  ·rename_i hcd
   refine kla_makeFunction (mg:=c.mg) hcl O.qS hg hcode hC hrel.2 (vF es) (by rw[zQ L.col,hcd];rfl) hgP hbat λc' ctv h' tk hx hc1 hc2 hrec htab=>?_;obtain⟨z1,z2⟩:=S.sat.lt hc1;obtain⟨f1,f2,f3⟩:=S.sat.fresh z1;have hne:c'≠dO (pos.line*1000+pos.col):=λq=>by rw[q,hP] at f1;cases f1
   have htl:dO (pos.line*1000+pos.col)<s.heap.objs.size:=fy hrel.2;have hsz:s.heap.objs.size<=h'.objs.size:=ja (k6 hc1 hc2);have sat1:=S.sat.set (h':=h') (o':=.tab (es++[(pos.line*1000+pos.col,c')])) (.gY S.sat.stay (λb o hb e=>hx b o hb e) hrel.1) hP rfl rfl (by show h'.get? _=_;rw[htab,LD L.col])
   have sat2:=sat1.add (a:=c') (o:=.code (pos.line*1000+pos.col)) (by rw[aD hne];exact f1) (λb o hb hd=>by
    by_cases hbt:b=dO (pos.line*1000+pos.col)
    ·subst hbt;rw[aA] at hb;obtain rfl:=kr hb;cases hd
    ·rw[aD hbt] at hb;exact f2 b o hb hd) f3 z2 rfl (by obtain⟨cx,oc,vs',tq,q1,q2,q3,q4⟩:=hrec;obtain rfl:=Value.ref.inj q1;rw[hqual] at q4;exact⟨oc,vs',tq,q2,q3,q4⟩)
   obtain⟨y1,y2⟩:=S.sat.lt hsz
   have yn:h'.get? h'.objs.size=none:=by
    cases q:h'.get? h'.objs.size with
    | none=>rfl
    | some o=>exact absurd (fy q) (ig _)
   have sat3:=sat2.alloc (a:=h'.objs.size) (o:=.lam (pos.line*1000+pos.col) (.ref c'::vs)) (.of_keep sat2.stay (show gS h' (h'.push (kla_obj "<lambda>" (c.env.qual++"<lambda>") ⟨[],[],none,[],[],none,[]⟩ body sc (lH c.env sc.names []) ((c.mg "__name__").getD .none) c' ctv)) from cM)) yn y2 rfl ⟨_,cs,fj _ rfl,key _ _ _ _ rfl,cells⟩;exact⟨_,⟨m,G,D,S.moved sat3 rfl rfl⟩,h c' f1 hne _ (sat2.fresh yn).1⟩
 ·exact ck h
end
end
theorem EZ:typeLookup (.type "list") "keys"=pure none:=by rw[typeLookup_type,builtinLookup_eq_fast];kernel_rfl
theorem EI{A:Around}{E:VS}{s:Sh}{a:Ad}{xs:Array Va}{k:Nat}{Q:Op Va->Sh->Prop}
  (hx:s.heap.get? a=some { cls:=.type "list",dict:=none,data:=.seq xs k,slots:=#[] }) (hA:A.handled=none)
  (h:∀ h' tk,gS s.heap h'->Q none { s with heap:=h',toks:=tk }):wpAny (model pw wd) A (getAttr? (.ref a) "keys") Q E s:=by
 obtain⟨hp,g,d,tk,os⟩:=s;have hT:∀ tk',(⟨hp,g,d,tk',os⟩:Sh).TypeIs (.ref a) "list":=λq=>⟨_,hx,rfl⟩
 have f1:=sub_AttributeError;have f3:=F.slot_list_getattribute.lookup;have f4:=F.slot_list_getattribute.bind (.ref a);have f5:=am_list_getattr_none;unfold getAttr? getAttrBy? getAttrBy
 repeat (any_goals (first|assumption|exact hT _|((with_reducible show wpAny _ _ (call (Value.builtin "list.__getattribute__") _ _) _ _ _);refine call_meets F.slot_list_getattribute (hT _) am_entry_list_getattribute (F.args_list_getattribute_2 _ _) (meets_getattribute_miss_list a xs k #[] "keys" _ EZ ⋯ (by size_fits)) ⟨hx,hA,λh' tk' e hx'=>?_⟩)|wp_step))
 obtain⟨t',u',he⟩:=hx'.there;show wpAny _ _ (getattributeRaised _ _ _ _ _ _ _) _ _ _;unfold getattributeRaised
 repeat (any_goals (first|assumption|wp_step))
 exact h _ _ hx'.keeps
section
variable{K:Type}[DecidableEq K]{knd:KeyKind pw wd K}{A:Around}{E:VS}{s:Sh}{R:Result->Sh->Prop}{kvs:List (K × Va)}
theorem mq:entryFor table "dict.update.loop"=some Builtin.«dict.update.loop»:=entryFor_of_tree (by kernel_rfl)
theorem gI:plainId "dict.update.loop"=true:=⋯
theorem pair_items{a:Ad}{x y:Va}{Q:List Va->Sh->Prop}(h:s.heap.get? a=some { cls:=.type "tuple",data:=.seq #[x,y] })(hq:Q [x,y] s):wpAny (model pw wd) A (Builtin.Dict.pairItems (.ref a)) Q E s:=by unfold Builtin.Dict.pairItems;refine af (wpAny_typeOf (T:="tuple") ⟨_,h,rfl⟩ ?_);rw[ai ()];refine af ?_;exact wpAny_seqItems h rfl (aq hq)
theorem JM{L I D:Ad}(hh:A.handled=none)(hn:kvs.length<=sizeLine)(hIL:I≠L)(hID:I≠D)(hLD:L≠D){as:List Ad}(hal:as.length=kvs.length)(hI:∀ a∈as,a≠I/\a≠D){h₁:Heap}
  (hR:∀ h' tk,(∀ b o,b≠I->b≠D->h₁.get? b=some o->h'.get? b=some o)->h'.DictOf knd D (merged [] kvs)->R (.ok (.ret .none)) { s with heap:=h',toks:=tk }):
  ∀(k i:Nat) (h:Heap) (tk:Nat),kvs.length-i=k->i<=kvs.length->h.IsListIter I L i->h.IsList L (as.map Value.ref).toArray->(∀(j:Nat) (a:Ad),as[j]?=some a->∃ key kk x,kvs[j]?=some (kk,x)/\knd.is kk key=true/\h.get? a=some { cls:=.type "tuple",data:=.seq #[key,x] })->h.DictOf knd D (merged [] (kvs.take i))->(∀ b o,b≠I->b≠D->h₁.get? b=some o->h.get? b=some o)->codeAny (model pw wd) A (.builtin "dict.update.loop" ⟨[.ref D,.ref I,rawInt i,.none],[]⟩) R { s with heap:=h,toks:=tk }:=by
 intro k;induction k with
 | zero=>
  intro i h tk hk hi hit hl ht hd hkeep;have hin:i=kvs.length:=by lia
  refine codeAny_builtin mq ?_;rw[Around.under_plainId gI _];show wpAny _ A.in1 (pyNext (.ref I)>>=_) _ _ _;refine af (wpAny_pyNext_list_end (s:={ s with heap:=h,toks:=tk }) (A:=A.in1) hh hit hl (by simp [hal,hin]) λh' he=>?_);show wpAny _ _ (Builtin.Dict.addKeywords D []>>=_) _ _ _;refine af (aq (aq (hR h' tk (λb o h1 h2 e=>he b o h1 (hkeep b o h1 h2 e)) ?_)));obtain⟨o,eo,d1⟩:=Heap.dictOf_iff.mp hd;rw[hin,List.take_length] at d1;exact Heap.dictOf_iff.mpr ⟨o,he D o (gz hID) eo,d1⟩
 | succ k ih=>
  intro i h tk hk hi hit hl ht hd hkeep;have hlt:i<as.length:=by lia
  have ha:as[i]?=some as[i]:=f9 hlt;generalize as[i]=a at ha;obtain⟨key,kk,x,e1,e2,e3⟩:=ht i a ha;obtain⟨n1,n2⟩:=hI a (g4 ha);refine codeAny_builtin mq ?_;rw[Around.under_plainId gI _];show wpAny _ A.in1 (pyNext (.ref I)>>=_) _ _ _;refine af (wpAny_pyNext_list_item (s:={ s with heap:=h,toks:=tk }) (x:=.ref a) hit hl (by simp [ha]) λh' hit' sb=>?_);have kp:∀ b o,b≠I->h.get? b=some o->h'.get? b=some o:=λb o hb e=>(sb.2 b hb).trans e;have e3':=kp a _ n1 e3;refine af (ay ?_);refine af (wpAny_tryCatch (pair_items e3' ?_));dsimp only;refine ay ?_;obtain⟨o,eo,d1⟩:=Heap.dictOf_iff.mp hd;have hd':h'.DictOf knd D (merged [] (kvs.take i)):=Heap.dictOf_iff.mpr ⟨o,kp D o (gz hID) eo,d1⟩;unfold dictSet
  try with_reducible refine ay ?_
  refine af (knd.pyHash e2 ?_);have hlen:(merged [] (kvs.take i)).length<=sizeLine:=fu (merged_length_le _ _) (by simp;lia);refine wpAny_dictSetHashed_pairs (s:={ s with heap:=h',toks:=_ }) e2 hd' (λh2 hd2 sb2=>?_) hlen;have kp2:∀ b o,b≠I->b≠D->h.get? b=some o->h2.get? b=some o:=λb o hb hb2 e=>(sb2.2 b hb2).trans (kp b o hb e);have hcast:rawInt ((i:Int)+1)=rawInt ((i+1:Nat):Int):=rfl;refine aq ⟨plainId_quiet gI _,ih (i+1) h2 _ (by lia) (by lia) ?_ ?_ ?_ ?_ ?_⟩
  ·obtain⟨o,eo,x⟩:=hit'
   exact⟨o,(sb2.2 I hID).trans eo,x⟩
  ·obtain⟨o,eo,x⟩:=hl
   exact⟨o,kp2 L o (gz hIL) hLD eo,x⟩
  ·intro j b hj
   obtain⟨key',kk',x',f1,f2,f3⟩:=ht j b hj;obtain⟨m1,m2⟩:=hI b (g4 hj);exact⟨key',kk',x',f1,f2,kp2 b _ m1 m2 f3⟩
  ·rw[merged_take_succ [] kvs i (kk,x) e1];exact hd2
  ·exactλb o h1 h2 e=>kp2 b o h1 h2 (hkeep b o h1 h2 e)
end
section
variable{K:Type}[DecidableEq K]{knd:KeyKind pw wd K}{A:Around}{E:VS}{s:Sh}{kvs:List (K × Va)}
theorem B0{L:Ad}{as:List Ad}{acc:Array Va}{n:Nat}{Q:VS}(hh:A.handled=none)(hl:s.heap.get? L=some { cls:=.type "list",dict:=none,data:=.seq acc n,slots:=#[] })(hacc:acc.toList=as.map Value.ref)(hal:as.length=kvs.length)
  (ht:∀(j:Nat) (a:Ad),as[j]?=some a->∃ key kk x,kvs[j]?=some (kk,x)/\knd.is kk key=true/\s.heap.get? a=some { cls:=.type "tuple",data:=.seq #[key,x] }) (hn:kvs.length<=sizeLine) (nd:(kvs.map (·.1)).Nodup)
  (h:∀ h' tk D,gS s.heap h'->s.heap.objs.size<=D->h'.DictOf knd D kvs->Q (.ref D) { s with heap:=h',toks:=tk }):wpAny (model pw wd) A (call (.type "dict") [.ref L]) Q E s:=by
 refine callType_codes (Q₁:=λobj aF=>obj=.ref s.heap.objs.size/\aF={ s with heap:=s.heap.push { cls:=.type "dict",data:=.dict #[] } }) PySem.F.kt_called_dict (PySem.F.kt_typeCall_dict_1 _) PySem.F.entry_dict_init (kt_code_dict_new _ ⟨rfl,rfl⟩) ?_
 rintro obj aF ⟨rfl,rfl⟩
 have hnew:(s.heap.push { cls:=.type "dict",data:=.dict #[] }).DictOf knd s.heap.objs.size []:=Heap.DictOf.new s.heap;have hl':=ek { cls:=.type "dict",data:=.dict #[] } hl;have hLs:L<s.heap.objs.size:=fy hl;refine⟨hnew.typeIs,PySem.F.args_dict_init_2 _ _,?_⟩;unfold Builtin.«dict.__init__»;refine af ?_;unfold Builtin.Dict.selfAndRest;refine af (wpAny_notOrdered_dict hnew.typeIs ?_);show wpAny _ _ (pure (s.heap.objs.size,[Value.ref L])) _ _ _;refine aq ?_;show wpAny _ _ (Builtin.Dict.updateFrom "dict.__init__" s.heap.objs.size (.ref L) [] .none) _ _ _;unfold Builtin.Dict.updateFrom;refine af (wpAny_typeOf (T:="list") ⟨_,hl',rfl⟩ ?_);rw[ai ()];refine af (EI hl' hh λh' tk hk=>?_);rw[ai (by rfl)];refine af (wpAny_rule ?_);have hl2:=hk _ _ hl';refine af (wpAny_pyIter_list (s:=⟨h',s.gens,s.drawn,tk,s.os⟩) (items:=acc) ⟨_,hl2,rfl,n,rfl⟩ ?_);have hlt:s.heap.objs.size<h'.objs.size:=fy (hk _ _ (fj _ rfl));have haslt:∀ a∈as,a<s.heap.objs.size:=λa ha=>by obtain⟨j,hj⟩:=List.mem_iff_getElem?.mp ha;obtain⟨_,_,_,_,_,e⟩:=ht j a hj;exact fy e
 have kk:∀ b o,s.heap.get? b=some o->(h'.push { cls:=.type "list_iterator",data:=.fields #[.ref L,.int 0 0] }).get? b=some o:=λb o e=>ek _ (hk b o (ek _ e));refine aq ⟨plainId_quiet gI _,?_⟩;refine JM (A:=A.in1) (s:=s) (knd:=knd) (kvs:=kvs) (as:=as) (L:=L) (I:=h'.objs.size) (D:=s.heap.objs.size) (h₁:=s.heap) hh hn (jr (gy hLs hlt)) (jr hlt) (gq hLs) hal (λa ha=>⟨gq (gy (haslt a ha) hlt),gq (haslt a ha)⟩)
  (λh2 tk2 hk2 hd2=>?_) kvs.length 0 _ _ (Nat.sub_zero _) (j5 _) ?_ ?_ ?_ ?_ ?_
 ·rw[merged_nil_of_nodup kvs nd] at hd2
  exact⟨rfl,h h2 tk2 _ (λb o e=>hk2 b o (gq (gy (fy e) hlt)) (gq (fy e)) e) (f7 _) hd2⟩
 ·exact⟨_,fj _ rfl,rfl,rfl⟩
 ·exact⟨_,kk _ _ hl,rfl,n,by rw[<-hacc]⟩
 ·intro j a hj
  obtain⟨key,k2,x,e1,e2,e3⟩:=ht j a hj;exact⟨key,k2,x,e1,e2,kk _ _ e3⟩
 ·obtain⟨o,eo,d1⟩:=Heap.dictOf_iff.mp hnew
  exact Heap.dictOf_iff.mpr ⟨o,ek _ (hk _ _ eo),d1⟩
 ·exactλb o q q e=>kk b o e
end
section
variable{X:XP}{Q:VQ}{n:Nat}
theorem Az{e o:Expr}(h:uQ e=some o):∃ lp apos pos p,e=.Call (.Name "list" lp) [.Call (.Attribute o "items" apos) [] [] pos] [] p/\(apos.endLine==pos.line)=true/\fG o=false:=aN h λc hc h=>aN h λl hl h=>aN h λm hm h=>aN h λd hd h=>aN h λq hq h=>cK h (λz w=>by simp only[e9,az,i6,List.isEmpty_iff] at z;obtain⟨⟨⟨⟨⟨⟨z1,z2⟩,z3⟩,z4⟩,z5⟩,z6⟩,z7⟩:=z;obtain⟨lp,hl⟩:=iS hl;refine⟨lp,q.2.2,d.2.2.2,c.2.2.2,(qM hc).trans ?_,beq_iff_eq.mpr z6,w▸z7⟩;rw[hl,kT hm,qM hd,tW hq,z1,z2,z3,z4,z5,w]) bB
theorem uy{g:Str}{gp pos:Pos}{es:List Expr}{v:Va}{Q':VS}(S:St c l P s)(O:bM c)(hv:dP K c.env.scope.names g=.con v)
  (h:∀ f s',ab f=v->St c l P s'->wpAny (MM wd) c.A (callWith pos f [] (backTo pos (starEach es c.env)) []) Q' (Exc c X) s'):wpAny (MM wd) c.A (eval (.Call (.Name g gp) es [] pos) c.env) Q' (Exc c X) s:=by refine Call_ (bG (mO (n:=0) (X:=X) (Q:=λu P'=>u=v/\P'=P) S O (by rw[hv];exact⟨rfl,rfl⟩)) λf aP aF aH h₁=>?_);obtain⟨e,rfl⟩:=h₁;exact h f aF e aH
set_option tactic.hygienic true in
theorem FD{f:Nat}(H:dM f):pG f:=by
 intro e o fv pos c l P s X Q n O Rm S hf he hl h;subst hf;obtain⟨lp,apos,ipos,p,rfl,h1,h2⟩:=Az he;have hh:=O.hh;refine bZ (G:=λj=>True) rfl tw (g8 ?_);refine uy S O (tu hl) λlv aF hlv aH=>?_;have:=sQ hlv;subst this;refine bZ (G:=λj=>True) rfl tw (g8 ?_);refine call_meth h2 rfl () h1 (bG (H o c l P aF X _ n O Rm aH h) λov gT cD bU bA=>?_);intro pl;replace bA:bD .itemsdict [ab ov] gT Q:=bA;cases ov<;>first|exact ck bA|skip
 rename_i d;obtain⟨t,kvs,q,bA⟩:=J3 (F:=λkvs=>kvs.length<big/\cE gT (.dict (0,0) kvs) Q) bA;obtain⟨hz,hq⟩:=bA;obtain⟨lo,ob,kvs',g,hd,rfl⟩:=iA bU O q;have hD:=Heap.dictOf_iff.mpr ⟨ob,g,hd⟩;refine dI PySem.F.slot_dict_items PySem.F.type_dict_items g hd ?_;refine bZ (G:=λj=>True) rfl p8 (g7 ⟨trivial,?_⟩);refine call_meetsIn PySem.F.slot_dict_items hD.typeIs PySem.F.entry_dict_items (PySem.F.args_dict_items_1 _) (meets_dict_items (strKind pw wd) d lo) ⟨⟨kvs',hD⟩,?_⟩;refine g7 ⟨trivial,?_⟩;obtain⟨es,ep,hc1,hd1,hp1⟩:=id hd;have hlen:kvs'.length<=sizeLine:=dN (by simpa using hz);have k1:gS cD.heap (cD.heap.push { cls:=.type "dict_items",data:=.fields #[.ref d] }):=cM;refine kdx_call (knd:=strKind pw wd) (kvs:=kvs') (ep:=ep) (d:=d) hh ⟨_,fj _ rfl,rfl,rfl⟩ ⟨ob,es,k1 _ _ g,hc1,hd1,hp1⟩ hlen λh' tk acc cc as hk hl' hal hG hacc=>?_;refine g7 ⟨trivial,?_⟩;refine B0 (knd:=strKind pw wd) (kvs:=kvs') hh hl' hacc hal hG.pairs hlen hp1.2.2 λh2 tk2 D hk2 hD2 hd2=>?_;obtain⟨o',e1,e2⟩:=Heap.dictOf_iff.mp hd2;have hk3:gS cD.heap h2:=λb o e=>hk2 b o (hk b o (k1 b o e));have hle:cD.heap.objs.size<=D:=by refine fu ?_ hD2;have z:(cD.heap.push { cls:=.type "dict_items",data:=.fields #[.ref d] }).get? cD.heap.objs.size=some { cls:=.type "dict_items",data:=.fields #[.ref d] }:=fj _ rfl;exact ja (fy (hk _ _ z))
 exact bU.made (t:=tk2) (o:=.dict (0,0) (kvs'.map kI)) hk3 hle e1 rfl (λF d e=>⟨⟨o',kvs',e,e2,rfl⟩,λz=>absurd z ()⟩) hq
end
section
variable{X:XP}{Q:VQ}{n:Nat}
theorem GH{fd:FuncData}{cs:List (Ad × Va)}(L:zN fd cs):bindArgs fd ⟨[],[]⟩=pure []:=by unfold bindArgs;rw[L.par,L.U8,L.kwd];rfl
theorem oS{fd:FuncData}{cs:List (Ad × Va)}(L:zN fd cs):∀ x∈fd.scope.names,x.2≠.cell:=λx hx q=>by rcases L.kinds x hx with h|h<;>rw[h] at q<;>cases q
theorem uS{fd:FuncData}{cs:List (Ad × Va)}(L:zN fd cs)(x:Str):fd.scope.names.lookup x≠some .cell:=λq=>oS L _ (mem_of_lookup q) rfl
theorem KQ{fd:FuncData}{cs:List (Ad × Va)}(L:zN fd cs):iY fd.scope=false:=by
 unfold iY;rw[List.any_eq_false];intro q hq;have:=oS L q hq
 simpa using this
theorem Hr{a cref:Ad}{k:Nat}{vs:List Va}(H:∀ f,dM f)(S:St c l P s)(O:bM c)(rm:bP (n+1) c.A)(hP:P a=some (.lam k (.ref cref::vs)))(hC:P cref=some (.code k))
  (h:bE n (yJ k) (vs.map some) P X Q):codeAny (MM wd) c.A (.call (.ref a) ⟨[],[]⟩) (CP c l X Q) s:=by
 obtain⟨m,G,D,S⟩:=S;have T:=S.sat;obtain⟨o,cs,eo,⟨fd,c0,body,f,hd,hvs,hcode,hqual,hbody,hcomp,L⟩,hcells⟩:=(T.rel a _ hP).2;obtain⟨rfl,rfl⟩:cref=c0/\vs=cs.map (λq=>ab q.2):=by rw[List.cons.injEq] at hvs;exact⟨by have:=hvs.1;obtain rfl:=Value.ref.inj this;rfl,hvs.2⟩
 obtain⟨oc,ovs,t,e1,e2,e3⟩:=(T.rel cref _ hC).2;refine kla_callFunE (gr (gr (gr (Nat.lt_succ_self _) (Nat.add_le_add_left (Nat.le_add_left 1 n) _)) rm.dp) ⋯) eo hd L.co L.gen hbody ⟨cref,oc,ovs,t,hcode,e1,e2,by rw[hqual];exact e3⟩ ?_;rw[GH L];refine aq (wpAny_newFunctionEnv (oS L) (λx hx=>nomatch hx) (λh₁ hns hsb=>⟨((O.top.nolimit).keeps T.stay).fresh _ hsb,?_⟩) L.knd);have hkeep:gS s.heap h₁:=λb o e=>hsb.extBut b o (gq (fy e)) (ek _ e);obtain⟨z1,z2⟩:=T.lt (f7 s.heap.objs.size);obtain⟨f1,f2,f3⟩:=T.fresh z1;let env':Env:=newEnv fd.scope s.heap.objs.size fd.globals fd.closure (fd.qualname++".<locals>.") (some a) fd.code none fd.builtins;show codeAny _ _ (.expr body env') _ _;have hframe:env'.frame=some env'.locals:=rfl;have ltG:∀ a p,G a=some p->a<s.heap.objs.size:=λa p q=>let ⟨_,o,eo,_⟩:=T.hid a p q;fy eo;have hcell:∀ x a,fd.closure.lookup x=some a->∃ q∈cs,q.1=a/\G a=some (eS (some q.2)):=λx a hx=>by obtain⟨q,hq,rfl⟩:=L.S2 x a hx;obtain⟨p,hp,rfl⟩:=hcells q hq;exact⟨q,hq,rfl,hp⟩
 let c':Fx:=⟨env',env',c.A.deeper env',c.base,c.mg,c.mb,c.aZ::c.outer,G,c.os⟩
 have O':bM c':=by
  refine⟨Around.frames_deeper O.hA,O.hh,L.knd,L.qS,L.JT,L.nd,f3,λj y a j q=>absurd q (uS L y),L.inj,by show fd.scope.kind≠_;rw[L.knd];decide,O.X,O.top,O.big,O.st,λe' hm=>?_,λx hx=>absurd hx (uS L x),hframe,λk hk=>absurd hk (L.Tw k),?_,O.GX⟩
  ·rcases ku hm with rfl|hm
   ·obtain⟨Lf,mf,q1,q2⟩:=S.nM
    exact⟨O.fk,Lf,mf,q1,q2⟩
   ·obtain⟨q0,Li,mi,q1,q2⟩:=O.frs e' hm
    exact⟨q0,Li,mi,q1,S.ext _ _ q2⟩
  ·show c.base.objs.size<=s.heap.objs.size
   obtain⟨_,o,eo,_⟩:=T.hid _ _ S.loc;exact ja (k6 O.Nz (fy eo))
 have S':lT c' ((cs.map λq=>ab q.2).map some) P { s with heap:=h₁,toks:=s.toks+0 } (λx=>([]:List (Str × Va)).reverse.lookup x) (cH G s.heap.objs.size (dH λx=>([]:List (Str × Va)).reverse.lookup x)) D:=by
  refine⟨λb p q=>?_,aJ ..,⟨_,_,hframe,aJ ..⟩,λy b q=>?_,λb p q=>?_,?_,?_,S.gens,S.os⟩
  ·rw[aE (gq (ltG b p q))];exact q
  ·obtain⟨q',_,_,hg⟩:=hcell y b q
   exact⟨_,by rw[aE (gq (ltG b _ hg))];exact hg⟩
  ·by_cases hb:b=s.heap.objs.size
   ·subst hb;rw[aJ] at q;obtain rfl:=kr q;exact .inr (.inl dU)
   ·rw[aE hb] at q;exact .inl q
  ·refine T.hides (.of_keep T.stay hkeep) (λb p q=>by rw[aE (gq (ltG b p q))];exact q) λb p q=>?_
   by_cases hb:b=s.heap.objs.size
   ·subst hb;rw[aJ] at q;obtain rfl:=kr q;exact .inr ⟨z1,z2,iZ hns⟩
   ·rw[aE hb] at q;exact .inl q
  ·intro i v hi
   rw[gj,gj] at hi;cases hq:cs[i]? with
   | none=>rw[hq] at hi;cases hi
   | some q=>rw[hq] at hi;simp only[i7,je] at hi;obtain⟨x,x1,x2⟩:=L.cap i q hq;obtain⟨p,hp,rfl⟩:=hcells q (g4 hq);refine⟨x,.free,x1,.inr ⟨.inr rfl,q.1,q.2,x2,?_,hi⟩⟩;rw[aE (gq (ltG q.1 _ hp))];exact hp
 have U:Sub c' c m:=⟨rfl,rfl,rfl,S.ext,S.loc,S.nM,S.nZ,S.own⟩
 have hret:∀ P:PH,ret fd.scope P=P:=λP=>by unfold ret;rw[KQ L];rfl
 have Rm':bP n c'.A:=⟨by have:=rm.dp;show c.A.depth+1+n<=990;lia,by have:=rm.un;show c.A.units+3+10*n<=9890;lia⟩
 rw[<-hcomp] at h;refine kla_codeExpr (ak (H f body c' _ P _ X Q n O' Rm' ⟨_,_,D,S'⟩ h) (λv s'' hq=>?_) λev s'' hx=>?_)
 ·obtain⟨P',S'',hQ⟩:=hq
  have:=U.back S'' S.lv;rw[show c'.env.scope=fd.scope from rfl,hret] at this;exact⟨_,this,hQ⟩
 ·refine Exc.leave (X:=X) U O' ?_ hframe
  rw[show c'.env.scope=fd.scope from rfl];simp only[hret];exact hx
end
section
variable{X:XP}{N:NP}{R:VQ}{n:Nat}
theorem St.renamed{h':Heap}{m':Str->Op Va}{t:Nat}(S:St c l P s)(O:bM c)(hn:h'.Ns c.env.locals m')(hs:Heap.SameBut c.env.locals s.heap h'):St c [] P { s with heap:=h',toks:=t }:=by
 obtain⟨m,G,D,S⟩:=S;obtain⟨_,o,eo,po⟩:=S.sat.hid _ _ S.loc;obtain⟨o',eo',po'⟩:=iZ hn;have kb:∀ b ob,b≠c.env.locals->s.heap.get? b=some ob->h'.get? b=some ob:=λb ob hb e=>(hs.2 b hb).trans e;refine⟨_,cH G c.env.locals (dH m'),D,λa p e=>?_,aJ ..,?_,λy a e=>?_,λa p e=>?_,?_,lq.nil,S.gens,S.os⟩
 ·rw[aE];exact S.ext a p e
  rintro rfl;rw[O.nF] at e;cases e
 ·obtain⟨Lf,mf,e1,e2⟩:=S.nM
  by_cases q:Lf=c.env.locals
  ·exact⟨Lf,_,e1,by rw[q];exact aJ ..⟩
  ·exact⟨Lf,mf,e1,by rw[aE q];exact e2⟩
 ·obtain⟨u,e⟩:=S.nZ y a e
  exact⟨u,by rw[aE (BB S.sat S.loc e)];exact e⟩
 ·by_cases q:a=c.env.locals
  ·subst q;rw[aJ] at e;obtain rfl:=kr e;exact .inr (.inl dU)
  ·rw[aE q] at e;exact S.own a p e
 ·refine S.sat.zk (.gY S.sat.stay kb (S.sat.hid _ _ S.loc).b) S.loc eo' po' (.inr λoc e u q=>?_)
  rw[eo] at e;obtain rfl:=kr e;exact oU po (some u) q
theorem lT.blank{m:Str->Op Va}{G:HF}{D:Ad->Ad}(S:lT c l P s m G D)(k:Nat):lT c (List.replicate k none) P s m G D:=⟨S.ext,S.loc,S.nM,S.nZ,S.own,S.sat,λi v e=>by rw[List.getElem?_replicate] at e;split at e<;>simp at e,S.gens,S.os⟩
theorem JA{x:Str}{i:Nat}{e:Ad}{s0 a1 b1 c1:Str}{k1 k2 k3:Nat}{A:Around}{E:VS}{p1 p2 p3 p4 p5 p6 p7:Pos}{kk:Nat}(I:pA K)(O:bM c)(S:St c (List.replicate (i+1) none) P s)
  (hx:c.env.scope.names[i]?=some (x,.local)) (h1:lO.findIdx? (·==a1)=some k1) (h2:lO.findIdx? (·==b1)=some k2) (h3:lO.findIdx? (·==c1)=some k3)
  (hb:(x==("__debug__":Str))=false) (hc:(x==("__classdict__":Str))=false)
  (h:bE n (.prim .add (.cons (.con (.str s0 0)) (.cons (.attr (.attr (.attr (.loc i) k1) k2) k3) .nil))) ((List.replicate (i+1) none).set i (some (.ref e))) P oA R):
  wpAny (MM wd) A (storeName c.env x (.ref e)) (λj s3=>wpAny (MM wd) A (execs [.Return (some (.BinOp (.Constant (.str s0) kk p1) .Add (.Attribute (.Attribute (.Attribute (.Name x p2) a1 p3) b1 p4) c1 p5) p6)) p7] c.env)
   (λf s4=>∃ v P',f=.ret v/\St c ((List.replicate (i+1) none).set i (some (.ref e))) P' s4/\R (ab v) P') E s3) E s:=by
 refine S.store O hx (.ref e) λs3 S3=>?_;refine wpAny_execs_cons (wpAny_Return_some (wpAny_BinOp (wpAny_Constant_str ?_)));have hat:((List.replicate (i+1) (none:Op Va)).set i (some (.ref e)))[i]?=some (some (.ref e)):=by rw[List.getElem?_set_self (by simp)]
 refine Attribute_any_ (Attribute_any_ (Attribute_any_ ((S3.toks _).load O hx hat hb hc λv' hv=>?_) (sS rfl)) (sS rfl)) (sS rfl);have:=tT hv;subst this;replace h:bE n (.attr (.attr (.attr (.loc i) k1) k2) k3) ((List.replicate (i+1) none).set i (some (.ref e))) P oA (λu P=>bD .add [.str s0 0,u] P R):=h;replace h:bE n (.loc i) ((List.replicate (i+1) none).set i (some (.ref e))) P oA λu P=>match u with
  | .ref a=>iB a k1 P λu P=>(match u with
   | .ref a=>iB a k2 P λu P=>(match u with
    | .ref a=>iB a k3 P (λu P=>bD .add [.str s0 0,u] P R)
    | _=>False)
   | _=>False)
  | _=>False:=h
 have h':iB e k1 P λu P=>(match u with
   | .ref a=>iB a k2 P λu P=>(match u with
    | .ref a=>iB a k3 P (λu P=>bD .add [.str s0 0,u] P R)
    | _=>False)
   | _=>False):=by
  have q:(match ((List.replicate (i+1) (none:Op Va)).set i (some (.ref e)))[i]? with
   | some (some v)=>(match v with
    | .ref a=>iB a k1 P λu P=>(match u with
     | .ref a=>iB a k2 P λu P=>(match u with
      | .ref a=>iB a k3 P (λu P=>bD .add [.str s0 0,u] P R)
      | _=>False)
     | _=>False)
    | _=>False)
   | _=>False):=h
  rw[hat] at q;exact q
 refine ak (mL (a:=.ref e) I (S3.toks _) O (qi h1) h') (λu1 s4 z=>?_) λj j y=>y;obtain⟨P4,S4,z⟩:=z;cases u1<;>first|exact ck z|skip
 refine ak (mL (a:=.ref _) I S4 O (qi h2) z) (λu2 s5 z=>?_) λj j y=>y;obtain⟨P5,S5,z⟩:=z;cases u2<;>first|exact ck z|skip
 refine ak (mL (a:=.ref _) I S5 O (qi h3) z) (λu3 s6 z=>?_) λj j y=>y;obtain⟨P6,S6,z⟩:=z;refine ak (IS (a:=.str s0 _) S6 z) (λv s7 z=>?_) λj j y=>y;obtain⟨P7,S7,z⟩:=z;exact⟨v,P7,rfl,S7,z⟩
end
theorem Gx{e:Expr}{q:Expr × Expr}(h:Mq e=some q):∃ p,e=.BinOp q.1 .Add q.2 p:=aN h λz h e=>cK e (λw e=>(GF h).elim λp h=>⟨p,h.trans (by rw[show z.2.1=.Add by revert w;cases z.2.1<;>intro w<;>first|exact gP w|rfl,<-e])⟩) bB
theorem Je{s:Stmt}{a:Expr}(h:Nb s=some a):∃ p,s=.Return (some a) p:=aN h λz h e=>(LI h).elim λp h=>⟨p,h.trans (aj (λx=>Stmt.Return x p) e)⟩
theorem HL{x:ExceptHandler}{q:Expr × Str × List Stmt}(h:MR x=some q):∃ p,x=.ExceptHandler (some q.1) (some q.2.1) q.2.2 p:=by obtain⟨ty,nm,b,p⟩:=x;obtain⟨t,h1,h2⟩:=dg h;obtain⟨y,h3,h4⟩:=dw h2;exact⟨p,by rw[h1,h3,<-h4]⟩
theorem B5{e:Expr}{s x a b c:Str}(h:yv e=some (s,x,a,b,c)):∃ k p1 p2 p3 p4 p5 p6,e=.BinOp (.Constant (.str s) k p1) .Add (.Attribute (.Attribute (.Attribute (.Name x p2) a p3) b p4) c p5) p6:=aN h λq h1 h=>aN h λs' h2 h=>aN h λc' h3 h=>aN h λb' h4 h=>aN h λa' h5 h=>dJ h λx' h6 h=>by have i1:=jb h;have i2:=jb i1.2;have i3:=jb i2.2;have i4:=jb i3.2;obtain⟨p6,h1⟩:=Gx h1;obtain⟨k,p1,h2⟩:=Bb h2;obtain⟨p5,h3⟩:=pJ h3;obtain⟨p4,h4⟩:=pJ h4;obtain⟨p3,h5⟩:=pJ h5;obtain⟨p2,h6⟩:=iS h6;exact⟨k,p1,p2,p3,p4,p5,p6,h1.trans (by rw[h2,h3,h4,h5,h6,i1.1,i2.1,i3.1,i4.1,i4.2])⟩
theorem JJ{body:List Stmt}{hs:List ExceptHandler}{a ty:Expr}{x s y a1 b1 c1:Str}(h:Nf body hs=some (a,ty,x,s,y,a1,b1,c1)):
  ∃ pa e pr hp,body=[.Expr a pa]/\hs=[.ExceptHandler (some ty) (some x) [.Return (some e) pr] hp]/\yv e=some (s,y,a1,b1,c1):=aN h λst h1 h=>aN h λa' h2 h=>aN h λhd h3 h=>aN h λq h4 h=>aN h λr h5 h=>aN h λe h6 h=>dJ h λz he h=>by have i1:=jb h;have i2:=jb i1.2;have i3:=jb i2.2;obtain⟨pa,h2⟩:=Ew h2;obtain⟨hp,h4⟩:=HL h4;obtain⟨pr,h6⟩:=Je h6;exact⟨pa,e,pr,hp,by rw[kT h1,h2,i1.1],by rw[kT h3,h4,kT h5,h6,i2.1,i3.1],he.trans (aj some i3.2)⟩
set_option tactic.hygienic true in
theorem Ax{a:Ad}{t:T}(h:isRef a t=true):t=.con (.ref a):=by
 cases t<;>first|cases h|skip
 rename_i v;cases v<;>first|cases h|skip
 rw[beq_iff_eq.mp h]
section
variable{X:XP}{N:NP}{R:VQ}{n:Nat}
theorem EC{ns:NS}{x:Str}{p:Pos}{i:Nat}(h:idxOf K ns (.Name x p)=some i):(x==("__debug__":Str))=false/\(x==("__classdict__":Str))=false:=
 have h:(Dw (dP K ns x)).bind (λi=>if OD ns[i]? then some i else none)=some i:=h
 aN h λj h _=>Bool.or_eq_false_iff.mp (Bool.eq_false_iff.mpr λhx=>by have e:dP K ns x=.bad:=ai hx;rw[e] at h;exact bB h)
theorem EB{A:Around}{E:VS}{env:Env}{e:Ad}{t:Expr}{nm:Str}{Qo:Stmt}{pos:Pos}{Q:Flow->Sh->Prop}
  (h:wpAny (model pw wd) (A.mark (some (.ref e))) (eval t env) (λc aF=>c=.ref 785/\fE aF.heap/\(∃ oe,aF.heap.get? e=some oe/\oe.cls=.ref 785)/\wpAny (model pw wd) (A.mark (some (.ref e))) (setFlight (.ref e) none) (λ_ cD=>
     wpAny (model pw wd) (A.mark (some (.ref e))) (storeName env nm (.ref e)) (λ_ jC=>
      wpAny (model pw wd) (A.mark (some (.ref e))) (execs [Qo] env)
       (λf zq=>wpAny (model pw wd) A (do bindName env nm .none;unbindBehindTheSuite env nm pos) (λ_ FY=>Q f FY) E zq)
       (λj j=>False) jC) (λj j=>False) cD) (λj j=>False) aF) (λj j=>False) s):
  wpAny (model pw wd) A (handleBy (.ref e) env [.ExceptHandler (some t) (some nm) [Qo] pos]) Q E s:=by refine wpAny_handleBy_cons (codeAny_handlers_test (ak h (λc aF h₁=>?_) λj j y=>ck y)) (by intro q;cases q);obtain⟨rfl,hC,⟨oe,he,hcls⟩,hk⟩:=h₁;have hC:aF.heap.get? 785=some JU:=hC;obtain⟨hh,g,d,tk,os⟩:=aF;refine wpAny_excMatches_sub_self hC he hcls () (codeAny_handlers_suite_as (ak hk (λj j z=>ak z (λj j z=>ak z (λf j z=>z) λj j y=>ck y) λj j y=>ck y) λj j y=>ck y))
theorem Iz{A:Around}{E:VS}{Q:VS}{x:Str}{pos:Pos}{u:Va}(S:St c l P s)(O:bM c)(h:dP K c.env.scope.names x=.con u)(hq:∀ v,ab v=u->Q v s):wpAny (MM wd) A (eval (.Name x pos) c.env) Q E s:=by
 have N:=vh c.env.scope.names x;rw[h] at N;cases N with
 | con i v hi hv hx=>exact Jt S O hi hv hx.1 (hq v rfl)
theorem Ie{uY AL:Lv}{i:Nat}{Q:VQ}(q:uY[i]?=AL[i]?)(h:bE n (.loc i) uY P X Q):bE n (.loc i) AL P X Q:=by
 replace h:(match uY[i]? with
  | some (some v)=>Q v P
  | _=>False):=h
 show(match AL[i]? with
  | some (some v)=>Q v P
  | _=>False)
 rw[<-q];exact h
theorem FZ{uY AL:Lv}{i k1 k2 k3:Nat}{s0:Str}(q:uY[i]?=AL[i]?)
  (h:bE n (.prim .add (.cons (.con (.str s0 0)) (.cons (.attr (.attr (.attr (.loc i) k1) k2) k3) .nil))) uY P oA R):
  bE n (.prim .add (.cons (.con (.str s0 0)) (.cons (.attr (.attr (.attr (.loc i) k1) k2) k3) .nil))) AL P oA R:=
 Ie (X:=oA) (n:=n) (Q:=λu P=>match u with
  | .ref a=>iB a k1 P λu P=>(match u with
   | .ref a=>iB a k2 P λu P=>(match u with
    | .ref a=>iB a k3 P (λu P=>bD .add [.str s0 0,u] P R)
    | _=>False)
   | _=>False)
  | _=>False) q h
set_option tactic.hygienic true in
theorem L5(H:dM 30)(I:pA K)(O:bM c)(Rm:bP n c.A)(S:St c l P s)(he:c.aZ=c.env){a:Expr}{x s0 a1 b1 c1 g:Str}{pa pr hp p1 p2 p3 p4 p5 p6 gp pos:Pos}{kk i k1 k2 k3:Nat}(hl:yF a=false)(hr:aC K 30 c.env.scope.names (.Name g gp)=.con (.ref 785))(hb:(x==("__debug__":Str))=false)(hc:(x==("__classdict__":Str))=false)
  (hx:c.env.scope.names[i]?=some (x,.local)) (h1:lO.findIdx? (·==a1)=some k1) (h2:lO.findIdx? (·==b1)=some k2) (h3:lO.findIdx? (·==c1)=some k3)
  (h:wpS n (aK c.env.scope.names) (.CE (aC K 30 c.env.scope.names a) i s0 k1 k2 k3) l P X N R):bN c X N R (.Try [.Expr a pa] [.ExceptHandler (some (.Name g gp)) (some x) [.Return (some (.BinOp (.Constant (.str s0) kk p1) .Add (.Attribute (.Attribute (.Attribute (.Name x p2) a1 p3) b1 p4) c1 p5) p6)) pr] hp] [] [] pos) s:=by
 have hf:c.env.frame=some c.env.locals:=by rw[<-he];exact O.fl
 refine wpAny_Try_except (wpAny_execs_cons (ak (DV (N:=λl P=>N l P) (R:=λj j=>False) H O Rm S (xE O) hl h) (λf aF z=>?_) λev aF z=>?_))
 ·cases f with
  | next=>exact bq (bq z)
  | ret v=>obtain⟨_,_,_,z⟩:=z;exact ck z
  | brk=>exact ck z
  | cont=>exact ck z
 ·obtain⟨e,aP,m,G,D,B,fl,rfl,hfl,SE,⟨fs,hPe⟩,hil,hw⟩:=z
  have hA:c.A.frames=some (c.env::c.outer):=by rw[<-he];exact O.hA
  have key:∀ bA,D3 B (c.aZ::c.outer) e (rawInt c.env.locals) bA->DY e aF.heap bA->wpAny (MM wd) c.A (setFlight (.ref e) none) (λ_ jC=>wpAny (MM wd) c.A (handleBy (.ref e) c.env [.ExceptHandler (some (.Name g gp)) (some x) [.Return (some (.BinOp (.Constant (.str s0) kk p1) .Add (.Attribute (.Attribute (.Attribute (.Name x p2) a1 p3) b1 p4) c1 p5) p6)) pr] hp]) (Fl c N R) (Exc c X) jC) (Exc c X) { aF with heap:=bA }:=λbA F ch=>by
   refine kX (f:=none) F λbY F' ch'=>EB ?_;have dS:=(SE.move O F ch).move O F' ch';have SS:St c (List.replicate (i+1) none) aP { aF with heap:=bY }:=⟨m,G,D,dS.st.blank _⟩
   obtain⟨oe4,ee4,hc4⟩:∃ oe,bY.get? e=some oe/\oe.cls=.ref 785:=by obtain⟨vs4,sl4,e4,_⟩:=(dS.st.sat.rel e _ hPe).2;exact⟨_,e4,rfl⟩
   refine Iz SS O hr λcv hcv=>?_;have:=tT hcv;subst this;refine⟨rfl,I.ex.at_ (SS.Cb O),⟨_,ee4,hc4⟩,?_⟩;refine kX (f:=none) F' λsy F'' ch''=>?_;have lE:=dS.move O F'' ch'';refine ak (JA (n:=n) (R:=R) I O ⟨m,G,D,lE.st.blank _⟩ hx h1 h2 h3 hb hc (FZ ?_ hw)) (λ_ FY z=>ak z (λf R6 z=>?_) λj j y=>y) λj j y=>y
   ·rw[List.getElem?_set_self hil,List.getElem?_set_self (by simp)]
   ·obtain⟨v,P',rfl,D8,z⟩:=z
    obtain⟨m6,G6,D6,S6⟩:=id D8;obtain⟨_,o6,eo6,po6⟩:=S6.sat.hid _ _ S6.loc;exact wpAny_nameGoes (aT O.nd hx) (po6.ns eo6) (by rw[O.knd];rfl) λh' m' hn hs=>⟨[],P',D8.renamed O hn hs,z⟩
  rcases hfl with rfl|⟨Lf,q,rfl⟩
  ·exact qY hA hf (he▸SE.Bu) λbA F ch=>key bA (he.symm▸F) ch
  ·rw[he,hf] at q;obtain rfl:=kr q
   exact qX hf SE.Bu (key aF.heap SE.Bu ⟨λb o q hn=>⟨o.slots,q⟩,λoe vs q hd=>⟨vs,by rw[q,<-hd]⟩⟩)
theorem Px(H:dM 30)(I:pA K)(O:bM c)(Rm:bP n c.A)(S:St c l P s)(he:c.aZ=c.env){body:List Stmt}{hs:List ExceptHandler}{pos:Pos}
  (h:wpS n (aK c.env.scope.names) (yr K c.env.scope.names body hs) l P X N R):bN c X N R (.Try body hs [] [] pos) s:=by
 refine cX h λq ht h=>?_;obtain⟨hc,h⟩:=JP h;refine cX h λi hi h=>?_;obtain⟨hk,h⟩:=JP h;refine cX h λk1 h1 h=>cX h λk2 h2 h=>cX h λk3 h3 h=>?_;simp only[e9,az,i6] at hc;obtain⟨pa,e0,pr,hp,e1,e2,hte⟩:=JJ ht;obtain⟨kk,p1,p2,p3,p4,p5,p6,e3⟩:=B5 hte;obtain⟨g,hg⟩:=cz hc.1.2;obtain⟨gp,hg⟩:=iS hg;have hb:=EC hi
 have hx:c.env.scope.names[i]?=some (q.2.2.1,.local):=by
  rcases uO hi with z|z
  ·exact z
  ·rw[z] at hk;exact gP hk
 have hr:=Ax hc.1.1.2;rw[e1,e2,e3,<-hc.1.1.1,hg];exact L5 H I O Rm S he hc.2 (hg▸hr) hb.1 hb.2 hx h1 h2 h3 h
end
section
variable{X:XP}{Q:VQ}{n:Nat}
theorem lA(I:pA K):∀ f,dM f/\sd f:=by
 intro rr;induction rr with
 | zero=>exact⟨λq q q q q q q q q q q h=>ck h,λq q q q q q q q q q q q h=>ck h⟩
 | succ f ih=>exact
  let ih:=ih;let e:=Fw ih.1 ih.2 I ⟨FD ih.1,λ_ _ _ _ ⟨fd,_,_,_,hd,_⟩=>⟨fd,hd⟩,Po ih.1 ih.2,LX,Jr ih.1⟩
  ⟨e,Fy e ih.1 ih.2⟩
theorem LR(I:pA K):yb where
 MV:=λq q q q q q q q q q q q q O Rm S he q hsw hi h=>Jv (f:=29) rfl (lA I 29).1 (lA I 29).2 O Rm S he hsw hi h
 iG:=λq q q q q q q q q q q q q q O Rm S he hi hb h=>Cz (lA I 30).1 O he Rm S hi hb h
 mH:=λq q q q q q q q q q q q q q q q q q q q q q q O Rm S q h1 h2 hs h=>Jy (lA I 30).1 I O Rm S h1 h2 hs h
 mK:=λq q q q q q q q q q q q q q q q q q q q q O Rm S q hs h=>FL (lA I 30).1 O Rm S hs h
 rW:=λq q q q q q q q q q q q q q q q q q q q q q q O Rm S he hi hj hg hb h=>Jw (lA I 30).1 O Rm S he hi hj hg hb h
 qe:=λq q q q q q q q q q q q q q q q q q O Rm S he hi hg hb h=>Jx (lA I 30).1 O Rm S he hi hg hb h
 CE:=λq q q q q q q q q q q O Rm S he h=>Px (lA I 30).1 I O Rm S he h
theorem xX(I:pA K)(f:Nat)(body:List Stmt)(c:Fx)(X:XP)(n:Nat)(he:c.aZ=c.env)(Rm:bP n c.A):JS n c X (jF K f c.env.scope.names body) body:=FG (lA I 30).1 (lA I 30).2 I (LR I) f body c X n he Rm
theorem BP{f:Ad}{fd:FuncData}{body:List Stmt}{u:U}{vs:List Va}{l0:Lv}(I:pA K)(fn:zM K f fd body)
  (hbind:∀(s:Sh) (args:List Va),K.In s.heap->args.map ab=vs->∃ binds,BindsTo s fd ⟨args,[]⟩ binds/\oH fd.scope binds/\fP fd.scope binds=l0)
  (hc:jF K 50 fd.scope.names body=u)
  (h:wpS n (aK fd.scope.names) u l0 P (λe P=>X e (ret fd.scope P)) (λq P=>Q .none (ret fd.scope P)) (λv P=>Q v (ret fd.scope P))):Calls (n+1) f vs P X Q:=by
 intro c l s args O Rm S hv;obtain⟨binds,h1,h2,h3⟩:=hbind s args (S.Cb O) hv;refine enter S O Rm fn h1 h2 λc' s' O' Rm' hs he S'=>?_;have B:=xX I 50 body c' (λe P=>X e (ret fd.scope P)) n he Rm';rw[h3] at S';rw[show c'.env.scope.names=fd.scope.names from by rw[hs],hc] at B;refine ak (B c' l0 P s' _ _ rfl rfl rfl O' S' (by rw[hs];exact h)) (λfl aF h₁=>?_) λq q x=>x;cases fl with
 | next=>(obtain⟨l1,P1,S1,q1⟩:=h₁;exact⟨l1,P1,S1,q1⟩)
 | ret v=>(obtain⟨l1,P1,S1,q1⟩:=h₁;exact⟨l1,P1,S1,q1⟩)
 | brk=>exact ck h₁
 | cont=>exact ck h₁
end
variable{M:Model}{env:Env}
theorem Jd{s:Sh}{x:Sem Va}{Q:Flow->Sh->Prop}(hh:A.handled=none)
  (h:wpAny M A x (λv aF=>∃ e t d,v=.ref e/\fE aF.heap/\aF.heap.get? e=some (⟨.ref 785,some d,fH t,#[]⟩:Obj)/\E (.ref e) aF) E s):
  wpAny M A (raiseStmt env (some x) none) Q E s:=by
 have hcB:(Value.ref 785::kO).contains (.type "BaseException")=true:=by decide
 unfold raiseStmt;refine af (ak h (λv aF h₁=>?_) λq q x=>x);obtain⟨e,t,dd,rfl,hC,he,hE⟩:=h₁;have hC:aF.heap.get? 785=some JU:=hC;obtain⟨hp,g,d,tk,os⟩:=aF;unfold fH at he
 repeat (first|with_reducible refine bh he ?_|with_reducible refine bh hC ?_|(with_reducible refine b8 hC ?_;rw[hcB])|wp_step)
 exact wpAny_raiseNew_none hh hE
theorem EG{M:Model}(h:Heap)(hC:fE h):∃ k,(k=Keeper.frame\/k=Keeper.machine\/k=Keeper.boundFrame)/\Looks M h (keeperOf (.ref 785)) k:=⟨.machine,.inr (.inl rfl),λA Q E s kp hq=>by have hC:s.heap.get? 785=some JU:=hC.keeps kp;obtain⟨hp,g,d,tk,os⟩:=s;exact wpAny_keeperOf_exc hC hq⟩
section
variable{c':Fx}{X:XP}{Q:VQ}{n:Nat}
theorem wm{h:Heap}{G:HF}{as:List Ad}(T:∀ a p,G a=some p->∃ o,h.get? a=some o/\p o):∀{l:List Env},(∀ e∈l,e.scope.kind≠.module/\∃ Li m,e.frame=some Li/\G Li=some (dH m))->(∀ e∈l,∀ a,e.frame=some a->a∈as)->h.FunFrames (hideAll h as) l:=by
 intro rr;induction rr with
 | nil=>exactλq q=>trivial
 | cons e r ih=>intro h1 h2;obtain⟨k,Li,m,hf,hg⟩:=h1 e (.head _);obtain⟨o,eo,po⟩:=T _ _ hg;exact⟨k,⟨Li,o,hf,hideAll_none _ (h2 e (.head _) Li hf),eo,gG po⟩,ih (λe he=>h1 e (.tail _ he)) λe he=>h2 e (.tail _ he)⟩
theorem Cc{m:Str->Op Va}{e:Ad}{fs:List (Nat × Va)}(U:Sub c' c m)(O:bM c')(hf:c'.aZ.frame=some c'.env.locals)(S:St c' l P s)(hP:P e=some (.jX 785 fs))(hX:X e (ret c'.env.scope (upd P e (.exc 785 fs))))(E:VS):
  wpAny (MM wd) c'.A («leaving» c'.aZ (.ref e)) (λj s'=>Exc c X (.ref e) s') E s:=by
 obtain⟨m',G,D,S⟩:=S;obtain⟨hb,t,he,es,k,hd,hr⟩:=S.sat.rel e _ hP;have T:=S.sat.Jj (h':=s.heap) (o':=.exc 785 fs) (.gY S.sat.stay (λb o j q=>q) (S.sat.dle e _ hP rfl)) hP rfl ⟨_,_,he,es,k,hd,hr⟩ rfl;have aH:lT c' l (upd P e (.exc 785 fs)) s m' G D:=S.moved T rfl rfl;have HG:=uF O S
 have nb:∀ b o,c'.base.get? b=some o->b∉e::fJ (c'.aZ::c'.outer):=λb o q hm=>by
  rcases ku hm with rfl|hm
  ·rw[hb] at q;cases q
  ·obtain⟨mm,z⟩:=HG b hm
   rw[(S.sat.hid _ _ z).b] at q;cases q
 have hbb:c'.base.StaysIn (hideAll s.heap (e::fJ (c'.aZ::c'.outer))):=λb o q=>br _ (S.sat.stay b o q) (nb b o q)
 have ff:s.heap.FunFrames (hideAll s.heap (e::fJ (c'.aZ::c'.outer))) (c'.aZ::c'.outer):=by
  refine wm (G:=G) (λa p q=>(S.sat.hid a p q).ex) (λenv hm=>?_) λenv hm a ha=>.tail _ (List.mem_filterMap.mpr ⟨env,hm,ha⟩);rcases ku hm with rfl|hm
  ·obtain⟨Lf,mf,q1,q2⟩:=S.nM
   exact⟨O.fk,Lf,mf,q1,q2⟩
  ·obtain⟨q0,Li,mm,q1,q2⟩:=O.frs env hm
   exact⟨q0,Li,mm,q1,S.ext _ _ q2⟩
 refine AI (L:=c'.env.locals) (B:=hideAll s.heap (e::fJ (c'.aZ::c'.outer))) (l:=c'.aZ::c'.outer) ?_;refine Ck O.hA ff hf he (λb o q=>of_hideAll _ q) (hideAll_none _ (.head _)) rfl rfl λh' F ch=>⟨F,λh'' F' ch'=>?_⟩
 have J0:BA c' (upd P e (.exc 785 fs)) e _ { s with heap:=h' } m' G D _:=BA.first O aH hbb ⟨785,fs,aA ..⟩ (λa o ho hae hfr j=>br _ ho λhm=>by
  rcases ku hm with q|q
  ·exact hae q
  ·exact hfr q) F ch
 have SG:=J0.move O F' ch';exact⟨e,_,m,c'.F,D,_,.none,rfl,.inl rfl,SG.leave U O hf,hX⟩
noncomputable def RH(X:XP):Nat->VQ
 | 0=>λq q=>False
 | k+1=>λv P=>∀ e,P e=none->Calls k 782 [.ref e,v] (upd P e (.raw 785)) X λu P=>u=.none/\∃ fs,P e=some (.jX 785 fs)/\X e (upd P e (.exc 785 fs))
theorem LH{cs:List Bool}{t:T}{N:NP}{R:VQ}:wpS n cs (.Fb t) l P X N R=bE n t l P X (RH X n):=by cases n<;>rfl
theorem Ae{f:Ad}{fd:FuncData}{ex:Expr}{pos:Pos}{t:T}{vs:List Va}{l0:Lv}(I:pA K)(fn:zM K f fd [.Raise (some ex) none pos])
  (hbind:∀(s:Sh) (args:List Va),K.In s.heap->args.map ab=vs->∃ binds,BindsTo s fd ⟨args,[]⟩ binds/\oH fd.scope binds/\fP fd.scope binds=l0)
  (hc:qP K fd.scope.names (some ex) none=.Fb t)
  (h:wpS n (aK fd.scope.names) (.Fb t) l0 P (λe P=>X e (ret fd.scope P)) (λq q=>False) (λq q=>False)):Calls (n+1) f vs P X Q:=by
 intro c l s args O Rm S hv;obtain⟨binds,h1,h2,h3⟩:=hbind s args (S.Cb O) hv;refine Hq S O Rm fn h1 h2 λc' m s' O' Rm' hs he U hf S'=>?_;rw[h3] at S';unfold qP at hc;dsimp only at hc;cases hcall:m8 K (isRef 785) fd.scope.names ex with
 | none=>rw[hcall] at hc;cases hc
 | some a=>
  rw[hcall] at hc;cases hc;obtain⟨g,gp,cp,rfl,hg⟩:=oN hcall;have hg:=Ax hg;rw[LH] at h;have hsa:[a].any isStar=false:=by cases a<;>first|rfl|exact ck h
  have toL:∀ ev s'',Exc c' (λe P=>X e (ret fd.scope P)) ev s''->∀ E,wpAny (MM wd) c'.A («leaving» c'.aZ ev) (λq s'=>Exc c X ev s') E s'':=λev s'' hx E=>by refine Exc.leave (X:=X) U O' ?_ hf;rw[hs];exact hx
  refine wpAny_execs_cons ?_;rw[arm_exec_Raise];show wpAny _ _ (do standAt pos;raiseStmt c'.env (some (do let v<-eval (.Call (.Name g gp) [a] [] cp) c'.env;standAt pos;pure v)) none) _ _ _;refine af (b9 (Jd O'.hh (af (ak (Q:=λv aF=>∃ e t d,v=.ref e/\fE aF.heap/\aF.heap.get? e=some (⟨.ref 785,some d,fH t,#[]⟩:Obj)/\∀ E,wpAny (MM wd) c'.A («leaving» c'.aZ (.ref e)) (λq s'=>Exc c X (.ref e) s') E aF)
   (E:=Exc c' (λe P=>X e (ret fd.scope P))) (uy S' O' (by rw[hs];exact hg) λfv aF hfv aH=>?_) (λv aF h₁=>af (b9 (aq h₁))) toL))))
  have:=tT hfv;subst this;refine bZ (G:=fE) hsa (λh hC=>EG h hC) (g8 (ak ((lA I 30).1 a c' _ P aF _ _ n O' Rm' aH (by rw[hs];exact h)) (λv cD bA=>?_) λq q x=>x));obtain⟨gT,bU,bA⟩:=bA;have hC:=I.ex.at_ (bU.Cb O');refine g7 ⟨hC,?_⟩;cases n with
  | zero=>exact ck bA
  | succ k=>
   have XK:=bU.Cb O';obtain⟨hh,gg,dd,tk,os⟩:=cD;have bY:∀ e,gT e=none->Calls k 782 [.ref e,ab v] (upd gT e (.raw 785)) (λe P=>X e (ret fd.scope P)) λu P=>u=.none/\∃ fs,P e=some (.jX 785 fs)/\X e (ret fd.scope (upd P e (.exc 785 fs))):=bA;refine Kn XK I.ex.xi I.ex.xf hC (by size_fits) λh' kp hz hget=>?_;obtain⟨hn,dS⟩:=bU.alloc (s':=⟨h',gg,dd,tk,os⟩) (a:=hh.objs.size+1) (o:=.raw 785) kp ⟨by show hh.objs.size<=h'.objs.size;lia,rfl,rfl⟩ (ki _) rfl λF d=>⟨_,hget⟩
   refine wpAny_call (codeAny_mono (bY _ hn { c' with A:=c'.A.under (.builtin "type.__call__" ⟨[.ref 785,v],[]⟩) } _ _ [.ref (hh.objs.size+1),v] O'.under Rm'.under (dS.ctx rfl rfl rfl rfl rfl) rfl) λr zq hr=>?_);rcases r with ev|fl
   ·exact Exc.ctx (c:={ c' with A:=c'.A.under (.builtin "type.__call__" ⟨[.ref 785,v],[]⟩) }) hr rfl rfl rfl rfl rfl rfl
   ·cases fl<;>first|(exact ck hr)|skip
    obtain⟨Nt,lE,hv4,fs,hP,hX⟩:=hr;have lE:=lE.ctx (c':=c') rfl rfl rfl rfl rfl;refine⟨CU hv4,hh.objs.size+1,?_⟩;obtain⟨m4,G4,D4,T4⟩:=id lE;obtain⟨_,t4,he4,_⟩:=T4.sat.rel _ _ hP;exact⟨t4,D4 _,rfl,I.ex.at_ (lE.Cb O'),he4,Cc U O' hf lE hP (by rw[hs];exact hX)⟩
theorem iQ{a cref:Ad}{k:Nat}{vs:List Va}(I:pA K)(hP:P a=some (.lam k (.ref cref::vs)))(hC:P cref=some (.code k))(h:bE n (yJ k) (vs.map some) P X Q):Calls (n+1) a [] P X Q:=by
 intro c l s args O Rm S hv;cases args with
 | cons _ _=>cases hv
 | nil=>exact Hr (λf=>(lA I f).1) S O Rm hP hC h
end
theorem Ol(P:Params):B7 (Kf P)=true:=by kernel_rfl
theorem Oo(P:Params):Ci (Kf P)=true:=by kernel_rfl
theorem Om(P:Params):yD (Kf P)=true:=by kernel_rfl
theorem Oi(P:Params):(yc.all λa=>uP (Kf P) a)=true:=by kernel_rfl
theorem Oj(P:Params):(Kf P).lookup 785=some (excClassObj "Raised" "Raised" 785 784 [.ref 765] kO true [] [] false none none (some (.ref 769)) none (some (.str "Raised" 1328)) (some (.str "Raised" 1336)) (some (.bool true)) "ValueError.__new__"):=by kernel_rfl
theorem QZ(P:Params):PY (Kf P) where
 exc:=.of (by kernel_rfl)
 cls:=Oj P
 xi:=by kernel_rfl
 xf:=by kernel_rfl
 Un:=.of (by kernel_rfl)
theorem qb(P:Params):pA (Kf P):=.of (Ol P) (Oo P) (Om P) (Oi P) (QZ P)
section
section
local macro_rules
 | `([])=>`(TL.nil)
 | `([$a])=>`(TL.cons $a TL.nil)
 | `([$a,$x,*])=>`(TL.cons $a [$x,*])
local macro_rules
 | `(⟨$a⟩)=>`(U.seq $a U.skip)
 | `(⟨$a,$x,*⟩)=>`(U.seq $a ⟨$x,*⟩)
local macro_rules
 | `(($n:num))=>`(T.loc $n)
 | `(($s:str))=>`(T.con (Value.str $s 0))
noncomputable def zy:U:=⟨.bI (0) 0 (1),.bI (0) 1 (2),.bI (0) 2 (.prim .dict0 []),.bI (0) 3 (.con .none),.bI (0) 4 (.con (.bool false)),.bI (0) 5 (.con .none)⟩
noncomputable def Be:U:=⟨.expr (.call 37 [(0),(1),(2)]),.bI (0) 17 (3)⟩
noncomputable def rF:U:=⟨.expr (.call 37 [(0),(1),(2)]),.bI (0) 18 (.bF (.prim .is [(3),.con .none]) (.prim .list []) (3))⟩
noncomputable def qu:U:=⟨.expr (.call 37 [(0),(1),(2)]),.bI (0) 19 (3),.bI (0) 20 (.con .none)⟩
noncomputable def dY:U:=⟨.expr (.call 37 [(0),(1),(2)]),.bI (0) 6 (3),.bI (0) 7 (4),.bI (0) 8 (5),.bI (0) 9 (6),.bI (0) 10 (.prim .dict0 []),.bI (0) 11 (.prim .dict0 []),.bI (0) 12 (.prim .list []),.bI (0) 13 (.prim .list []),.bI (0) 14 (.con .none),.bI (0) 15 (.con .none),.bI (0) 16 (.con .none)⟩
noncomputable def mR:U:=⟨.ret (.prim .isnot [.attr (0) 14,.con .none])⟩
noncomputable def zx:U:=⟨.bI (0) 6 (1),.bI (0) 1 (2),.bI (0) 21 (3),.bI (0) 22 (4),.bI (0) 23 (5),.bI (0) 24 (6),.bI (0) 25 (.prim .tup []),.bI (0) 26 (.con .none)⟩
noncomputable def fM:U:=⟨.dQ 4 (.make 256 [(1),(2),.attr (0) 21,.attr (0) 22,.attr (0) 23,.bF (.prim .is [(3),.con .none]) (.attr (0) 24) (3)]),.bI (4) 25 (.attr (0) 25),.bI (4) 26 (.attr (0) 26),.ret (4)⟩
noncomputable def Mg:U:=⟨.bF (.prim (.jH "bool") [(0)]) ⟨.ret (0)⟩ .skip,.ret (.prim .isnot [(0),.con .none])⟩
noncomputable def Ge:U:=⟨.bF (.prim .is [(0),.con .none]) ⟨.ret ("nil")⟩ .skip,.bF (.prim (.jH "bool") [(0)]) ⟨.ret ("bool")⟩ .skip,.bF (.prim (.jH "int") [(0)]) ⟨.ret ("int")⟩ .skip,.ret (.bF (.prim (.jH "str") [(0)]) ("sym") ("thing"))⟩
noncomputable def PC:U:=⟨.dQ 2 (.call 274 [(0)]),.bF (.prim .ne [(2),.call 274 [(1)]]) ⟨.ret (.con (.bool false))⟩ .skip,.ret (.bF (.prim .eq [(2),("thing")]) (.prim .eq [.attr (0) 0,.attr (1) 0]) (.prim .eq [(0),(1)]))⟩
noncomputable def Bj:U:=⟨.bF (.prim .isnot [.attr (0) 14,.con .none]) ⟨.ret (.prim .add [.prim .add [("#<Class:"),.call 368 [.attr (0) 14]],(">")])⟩ .skip,.bF (.prim .is [.attr (0) 6,.con .none]) ⟨.ret (.bF (.attr (0) 7) ("#<Class>") ("#<Module>"))⟩ .skip,.bF (.prim .is [.attr (0) 9,.con .none]) ⟨.ret (.attr (0) 6)⟩ .skip,.ret (.prim .add [.prim .add [.call 315 [.attr (0) 9],("::")],.attr (0) 6])⟩
noncomputable def Ga:U:=⟨.bF (.prim (.jH "str") [(1)]) ⟨.ret (1)⟩ .skip,.bF (.prim (.isinst 62) [(1)]) ⟨.ret (.attr (1) 17)⟩ .skip,.ret (.aS (0) 20 [("TypeError"),.prim .add [.call 368 [(1)],(" is not a symbol nor a string")]])⟩
noncomputable def Bl:U:=⟨.bF (.or (.prim .eq [(0),("")]) (.prim .notin [.prim .item [(0),.con (.int 0 0)],(1)])) ⟨.ret (.con (.bool false))⟩ .skip,.loop 2 (.prim .from1 [(0)]) ⟨.bF .bad ⟨.ret (.con (.bool false))⟩ .skip⟩,.ret (.con (.bool true))⟩
noncomputable def sH:U:=⟨.bF (.not (.call 382 [(1),.bm .upper ("abcdefghijklmnopqrstuvwxyz") []])) ⟨.expr (.aS (0) 20 [("NameError"),.prim .add [("wrong constant name "),(1)]])⟩ .skip,.ret (1)⟩
noncomputable def zG:U:=⟨.bF (.or (.not (.prim (.isinst 228) [(1)])) (.attr (1) 7)) ⟨.expr (.aS (0) 20 [("TypeError"),.prim .add [.prim .add [("wrong argument type "),.call 315 [.aS (0) 1 [(1)]]],(" (expected Module)")]])⟩ .skip⟩
noncomputable def Bh:U:=⟨.bI (1) 2 (.prim .dictof [.attr (0) 2]),.bF (.prim (.isinst 62) [(0)]) ⟨.bI (1) 17 (.attr (0) 17)⟩ ⟨.bF (.prim (.isinst 82) [(0)]) ⟨.bI (1) 18 (.prim .listof [.attr (0) 18])⟩ ⟨.bF (.prim (.isinst 120) [(0)]) ⟨.bI (1) 44 (.prim .dictof [.lc (none::none::none::(some 0)::.nil) 1 (.attr (0) 44) (.prim .tup [(1),.prim .listof [.prim .item [.attr (3) 44,(1)]]]) (.con (.bool true))]),.bI (1) 45 (.attr (0) 45)⟩ ⟨.bF (.prim (.isinst 140) [(0)]) ⟨.bad⟩ ⟨.bF (.prim (.isinst 181) [(0)]) ⟨.mH (1) 19 (1) 20 (.attr (0) 19) (.attr (0) 20)⟩ ⟨.bF (.prim (.isinst 161) [(0)]) ⟨.expr (.call 415 [(0),(1)])⟩ ⟨.bF (.prim (.isinst 228) [(0)]) ⟨.expr (.call 422 [(0),(1)])⟩ .skip⟩⟩⟩⟩⟩⟩⟩
noncomputable def jU:U:=⟨.mH (1) 7 (1) 8 (.attr (0) 7) (.attr (0) 8),.bF (.not (.aS (0) 5 [])) ⟨.bI (1) 15 (.attr (0) 15)⟩ .skip,.loop 2 (.attr (0) 10) ⟨.dQ 3 (.prim .item [.attr (0) 10,(2)]),.fD (.attr (1) 10) (2) (.aS (3) 21 [.attr (3) 6,(1)])⟩,.bI (1) 11 (.prim .dictof [.attr (0) 11]),.mH (1) 12 (1) 13 (.prim .listof [.attr (0) 12]) (.prim .listof [.attr (0) 13])⟩
noncomputable def F0:U:=⟨.bF (.not (.prim (.isinst 40) [(1)])) ⟨.ret (1)⟩ .skip,.bF (.prim (.isinst 201) [(1)]) ⟨.ret (.aS (0) 20 [("TypeError"),("allocator undefined for Fiber")])⟩ .skip,.dQ 2 (.aS (0) 8 [.aS (0) 1 [(1)]]),.expr (.call 408 [(1),(2)]),.ret (2)⟩
noncomputable def zE:U:=⟨.bF (.or (.not (.prim (.isinst 228) [(1)])) (.not (.attr (1) 7))) ⟨.ret (.aS (0) 20 [("TypeError"),.prim .add [.prim .add [("superclass must be an instance of Class (given "),.aS (0) 22 [(1)]],(")")]])⟩ .skip,.bF (.aS (1) 5 []) ⟨.ret (.aS (0) 20 [("TypeError"),("can't make subclass of singleton class")])⟩ .skip,.bF (.call 281 [(1),.aS (0) 0 [("Class")]]) ⟨.ret (.aS (0) 20 [("TypeError"),("can't make subclass of Class")])⟩ .skip,.dQ 2 (.aS (0) 8 [.aS (0) 0 [("Class")]]),.mH (2) 7 (2) 8 (.con (.bool true)) (1),.ret (2)⟩
noncomputable def wX:U:=⟨.ret (.aS (0) 8 [.aS (0) 0 [("Module")]])⟩
noncomputable def Bk:U:=⟨.loop 2 (0) ⟨.bF (.call 281 [(2),(1)]) ⟨.ret (.con (.bool true))⟩ .skip⟩,.ret (.con (.bool false))⟩
noncomputable def CJ:U:=⟨.dQ 1 (.prim .list []),.loop 2 (.prim .rev [.attr (0) 13]) ⟨.expr (.bm .extend (1) [.call 457 [(2)]])⟩,.expr (.bm .append (1) [(0)]),.loop 2 (.prim .rev [.attr (0) 12]) ⟨.expr (.bm .extend (1) [.call 457 [(2)]])⟩,.ret (1)⟩
noncomputable def wV:U:=⟨.ret (.prim .sum [.lc (none::none::none::none::.nil) 1 (.attr (0) 13) (.prim .len [.call 457 [(1)]]) (.con (.bool true))])⟩
noncomputable def mV:U:=⟨.dQ 2 (.bF (.prim .is [.attr (1) 8,.con .none]) (.prim .list []) (.call 474 [(0),.attr (1) 8])),.iG (3::4::.nil) (.prim .tup [.prim .list [],.call 462 [(1)]]),.rW 5 6 (.call 457 [(1)]) ⟨.bF (.and (.not (.call 450 [(3),(6)])) (.or (.prim .lt [(5),(4)]) (.not (.call 450 [(2),(6)])))) ⟨.expr (.bm .append (3) [(6)])⟩ .skip⟩,.ret (.prim .add [(3),.lc (none::none::none::(some 3)::.nil) 1 (2) (1) (.not (.call 450 [(3),(1)]))])⟩
noncomputable def rI:U:=⟨.bF (.or (.prim .is [.attr (1) 16,.con .none]) (.prim .ne [.prim .item [.attr (1) 16,.con (.int 0 0)],.attr (0) 36])) ⟨.bI (1) 16 (.prim .tup [.attr (0) 36,.call 467 [(0),(1)]])⟩ .skip,.ret (.prim .item [.attr (1) 16,.con (.int 1 0)])⟩
noncomputable def wW:U:=⟨.dQ 3 (.bm .qR (.bm .uI (.attr (0) 27) [.attr (1) 15,.prim .dict0 []]) [(2)]),.bF (.prim .isnot [(3),.con .none]) ⟨.dQ 4 (.bF (.prim (.jH "str") [(3)]) ("control") ("native")),.ret .bad⟩ .skip,.dQ 5 (.bm .qR (.bm .uI (.attr (0) 28) [.attr (1) 15,.prim .dict0 []]) [(2)]),.bF (.prim .is [(5),.con .none]) ⟨.ret (.con .none)⟩ .skip,.dQ 6 .bad,.sO (.prim .eq [.bad,("seq")]) ⟨.dQ 6 (.prim .item [.prim .item [.bad,.con (.int 0 0)],.con (.int 0 0)])⟩,.iG (7::8::9::10::.nil) .bad,.ret .bad⟩
noncomputable def CI:U:=⟨.dQ 3 (.bm .qR (.attr (1) 10) [(2)]),.bF (.and (.prim .is [(3),.con .none]) (.prim .isnot [.attr (1) 15,.con .none])) ⟨.dQ 3 (.call 502 [(0),(1),(2)]),.bF (.prim .isnot [(3),.con .none]) ⟨.fD (.attr (1) 10) (2) (3)⟩ .skip⟩ .skip,.ret (.bF (.or (.prim .is [(3),.con .none]) (.prim .eq [.attr (3) 21,("gone")])) (.con .none) (3))⟩
noncomputable def oG:U:=⟨.loop 3 (1) ⟨.dQ 4 (.call 509 [(0),(3),(2)]),.bF (.prim .isnot [(4),.con .none]) ⟨.ret (.bF (.prim .eq [.attr (4) 21,("none")]) (.con .none) (4))⟩ .skip⟩,.ret (.con .none)⟩
noncomputable def PB:U:=⟨.ret (.call 516 [(0),.call 474 [(0),(1)],(2)])⟩
noncomputable def sM:U:=⟨.aug (0) 36 (.con (.int 1 0))⟩
noncomputable def sL:U:=⟨.bF (.attr (1) 4) ⟨.expr (.aS (0) 20 [("FrozenError"),.prim .add [.prim .add [.prim .add [("can't modify frozen "),.call 565 [(1)]],(": ")],.call 315 [(1)]]])⟩ .skip⟩
noncomputable def k7:U:=⟨.bF (.or (.prim .is [(1),.con .none]) (.prim (.jH "bool") [(1)])) ⟨.ret (.aS (0) 1 [(1)])⟩ .skip,.bF (.not (.prim (.isinst 40) [(1)])) ⟨.expr (.aS (0) 20 [("TypeError"),("can't define singleton")])⟩ .skip,.bF (.prim .isnot [.attr (1) 3,.con .none]) ⟨.ret (.attr (1) 3)⟩ .skip,.dQ 2 (.aS (0) 1 [(1)]),.bF (.and (.prim (.isinst 228) [(1)]) (.and (.attr (1) 7) (.prim .isnot [.attr (1) 8,.con .none]))) ⟨.dQ 2 (.call 544 [(0),.attr (1) 8])⟩ .skip,.bI (1) 3 (.aS (0) 10 [.con .none,.con (.bool true),(2),.con .none,(1)]),.bF (.and (.prim (.isinst 228) [(1)]) (.and (.prim .isnot [.attr (1) 15,.con .none]) (.not (.aS (1) 5 [])))) ⟨.bI (.attr (1) 3) 15 (.prim .add [.attr (1) 15,(".")])⟩ .skip,.expr (.call 530 [(0)]),.ret (.attr (1) 3)⟩
noncomputable def JL:U:=⟨.expr (.call 537 [(0),(1)]),.fD (.attr (1) 10) (.attr (2) 6) (2),.expr (.call 530 [(0)])⟩
noncomputable def w4:U:=⟨.expr (.call 537 [(0),(1)]),.fD (.attr (1) 10) (2) (3),.expr (.call 530 [(0)])⟩
noncomputable def Bm:U:=⟨.ret (.bF (.attr (0) 7) ("class") ("module"))⟩
noncomputable def zF:U:=⟨.dQ 3 (.call 523 [(0),(1),(2)]),.bF (.and (.prim .is [(3),.con .none]) (.not (.attr (1) 7))) ⟨.dQ 3 (.call 523 [(0),.aS (0) 0 [("Object")],(2)])⟩ .skip,.bF (.prim .is [(3),.con .none]) ⟨.expr (.aS (0) 20 [("NameError"),.prim .add [.prim .add [.prim .add [.prim .add [.prim .add [.prim .add [("undefined method '"),(2)],("' for ")],.call 565 [(1)]],(" '")],.call 315 [(1)]],("'")]])⟩ .skip,.ret (3)⟩
noncomputable def CK:U:=⟨.expr (.call 572 [(0),(1),(2)]),.expr (.call 558 [(0),(1),(2),.make 256 [(2),(1),("none"),.con .none,.con .none,("public")]])⟩
noncomputable def Bo:U:=⟨.dQ 3 (.call 509 [(0),(1),(2)]),.bF (.or (.prim .is [(3),.con .none]) (.prim .eq [.attr (3) 21,("none")])) ⟨.expr (.aS (0) 20 [("NameError"),.prim .add [.prim .add [.prim .add [("method '"),(2)],("' not defined in ")],.call 315 [(1)]]])⟩ .skip,.expr (.call 537 [(0),(1)]),.bF (.or (.prim .is [.attr (1) 15,.con .none]) (.prim .is [.call 502 [(0),(1),(2)],.con .none])) ⟨.expr (.bm .pop (.attr (1) 10) [(2)])⟩ ⟨.fD (.attr (1) 10) (2) (.make 256 [(2),(1),("gone"),.con .none,.con .none,("public")])⟩,.expr (.call 530 [(0)])⟩
noncomputable def JK:U:=⟨.ret (.aS (0) 21 [.attr (0) 6,.attr (0) 1,(1)])⟩
noncomputable def Mf:U:=⟨.dQ 4 (.call 572 [(0),(1),(3)]),.expr (.call 558 [(0),(1),(2),.call 593 [(4),.attr (4) 24]])⟩
noncomputable def Bp:U:=⟨.loop 4 (2) ⟨.dQ 5 (.call 572 [(0),(1),(4)]),.bF (.or (.prim .ne [.attr (5) 24,(3)]) (.prim .is [.call 509 [(0),(1),(4)],.con .none])) ⟨.expr (.call 558 [(0),(1),(4),.call 593 [(5),(3)]])⟩ .skip⟩⟩
noncomputable def zH:U:=⟨.bF (.or (.not (.prim (.isinst 228) [(2)])) (.attr (2) 7)) ⟨.dQ 3 (.call 315 [.aS (0) 1 [(2)]]),.expr (.aS (0) 20 [("TypeError"),.prim .add [.prim .add [("wrong argument type "),(3)],(" (expected Module)")]])⟩ .skip,.bF (.call 450 [.call 457 [(2)],(1)]) ⟨.expr (.aS (0) 20 [("ArgumentError"),("cyclic include detected")])⟩ .skip⟩
noncomputable def F9:U:=⟨.expr (.call 614 [(0),(1),(2)]),.expr (.call 537 [(0),(1)]),.bF (.not (.call 450 [.attr (1) 12,(2)])) ⟨.expr (.bm .append (.attr (1) 12) [(2)]),.expr (.call 530 [(0)])⟩ .skip⟩
noncomputable def Gb:U:=⟨.expr (.call 614 [(0),(1),(2)]),.expr (.call 537 [(0),(1)]),.bF (.not (.call 450 [.attr (1) 13,(2)])) ⟨.expr (.bm .append (.attr (1) 13) [(2)]),.expr (.call 530 [(0)])⟩ .skip⟩
noncomputable def Gd:U:=⟨.dQ 4 (.call 523 [(0),.aS (0) 2 [(1)],(2)]),.ret (.and (.prim .isnot [(4),.con .none]) (.or (3) (.prim .eq [.attr (4) 24,("public")])))⟩
noncomputable def rL:U:=⟨.ret (.call 635 [(0),(1),.call 375 [(0),.prim .item [(2),.con (.int 0 0)]],.and (.prim .gt [.prim .len [(2)],.con (.int 1 0)]) (.call 267 [.prim .item [(2),.con (.int 1 0)]])])⟩
noncomputable def CH:U:=⟨.bF (.prim .isnot [.attr (1) 3,.con .none]) ⟨.expr (.call 422 [.attr (1) 3,.call 544 [(0),(2)]]),.aug (0) 36 (.con (.int 1 0))⟩ .skip⟩
noncomputable def zJ:U:=⟨.dQ 3 (.call 429 [(0),(1)]),.bF (.prim (.isinst 228) [(1)]) ⟨.expr (.call 649 [(0),(1),(3)])⟩ .skip,.ret (3)⟩
noncomputable def vN:U:=⟨.dQ 3 (.call 429 [(0),(1)]),.bF (.prim (.isinst 40) [(1)]) ⟨.expr (.call 649 [(0),(1),(3)]),.bI (3) 4 (.attr (1) 4)⟩ .skip,.ret (3)⟩
noncomputable def wZ:U:=⟨.ret (.bF (.prim .is [.attr (1) 6,.con .none]) (.con .none) (.aS (0) 7 [.call 315 [(1)]]))⟩
noncomputable def wY:U:=⟨.ret (.aS (0) 9 [.call 474 [(0),(1)]])⟩
noncomputable def rJ:U:=⟨.loop 3 (2) ⟨.expr (.call 403 [(0),(3)])⟩,.loop 3 (.prim .rev [(2)]) ⟨.expr (.call 621 [(0),(1),(3)])⟩,.ret (1)⟩
noncomputable def rK:U:=⟨.loop 3 (2) ⟨.expr (.call 403 [(0),(3)])⟩,.loop 3 (.prim .rev [(2)]) ⟨.expr (.call 628 [(0),(1),(3)])⟩,.ret (1)⟩
noncomputable def sJ:U:=⟨.loop 3 (2) ⟨.expr (.call 586 [(0),(1),.call 375 [(0),(3)]])⟩,.ret (1)⟩
noncomputable def vM:U:=⟨.loop 3 (2) ⟨.expr (.call 579 [(0),(1),.call 375 [(0),(3)]])⟩,.ret (1)⟩
noncomputable def vL:U:=⟨.dQ 3 (.call 375 [(0),.prim .item [(2),.con (.int 0 0)]]),.expr (.call 600 [(0),(1),(3),.call 375 [(0),.prim .item [(2),.con (.int 1 0)]]]),.ret (3)⟩
noncomputable def sG:U:=⟨.iG (3::4::.nil) (.aS (0) 13 [(1),.call 389 [(0),(2)]]),.bF (.not (3)) ⟨.iG (3::4::.nil) (.aS (0) 13 [.aS (0) 0 [("Object")],(2)])⟩ .skip,.ret (.bF (3) (4) (.aS (0) 15 [(1),(2)]))⟩
noncomputable def sI:U:=⟨.dQ 3 (.bm .split (2) [("::")]),.dQ 4 (.call 719 [(0),(1),.prim .item [(3),.con (.int 0 0)]]),.loop 5 (.prim .from1 [(3)]) ⟨.expr (.call 396 [(0),(4)]),.dQ 4 (.aS (0) 15 [(4),.call 389 [(0),(5)]])⟩,.ret (4)⟩
noncomputable def qA:U:=⟨.ret (.call 726 [(0),(1),.call 375 [(0),.prim .item [(2),.con (.int 0 0)]]])⟩
noncomputable def lK:U:=⟨.expr (.aS (0) 16 [(1),.call 389 [(0),.call 375 [(0),.prim .item [(2),.con (.int 0 0)]]],.prim .item [(2),.con (.int 1 0)]]),.ret (.prim .item [(2),.con (.int 1 0)])⟩
noncomputable def vK:U:=⟨.ret (.attr (1) 8)⟩
noncomputable def sC:U:=⟨.expr (.prim .vinit [(0),(1)]),.bI (0) 42 (1)⟩
noncomputable def wQ:U:=⟨.expr (.call 762 [(0),("a Ruby error")]),.bI (0) 43 (1)⟩
noncomputable def zA:U:=⟨.bI (0) 27 (1),.bI (0) 28 (.bF (.prim .is [(2),.con .none]) (.prim .dict0 []) (2)),.bI (0) 29 (3),.bI (0) 30 (4),.bI (0) 31 (.con (.int 0 0)),.bI (0) 32 (.con (.int 0 0)),.bI (0) 33 (.con (.int 8 0)),.bI (0) 34 (.prim .dict0 []),.bI (0) 35 (.prim .dict0 []),.bI (0) 36 (.con (.int 0 0)),.bI (0) 37 (.con (.int 0 0)),.bI (0) 38 (.prim .dict0 []),.bI (0) 39 (.prim .list []),.bI (0) 40 (.con (.bool false)),.bI (0) 41 (.make 40 [.aS (0) 6 [],.aS (0) 0 [("Object")]]),.bI (0) 40 (.con (.bool true)),.loop 5 (.prim .listof [.attr (0) 35]) ⟨.expr (.aS (0) 11 [(5)])⟩⟩
noncomputable def vH:U:=⟨.aug (0) 32 (.con (.int 1 0)),.ret (.attr (0) 32)⟩
noncomputable def sD:U:=⟨.dQ 2 (.bm .qR (.attr (0) 35) [(1)]),.ret (.bF (.prim .is [(2),.con .none]) (.aS (0) 12 [(1)]) (2))⟩
noncomputable def iE:U:=⟨.dQ 2 (.prim .notin [(1),.con (.ref 788)]),.dQ 3 (.make 228 [.aS (0) 6 [],.con .none,(1),(2)]),.fD (.attr (0) 35) (1) (3),.bI (3) 15 (1),.dQ 4 (.prim .item [.con (.ref 789),(1)]),.bI (3) 8 (.bF (.prim .is [(4),.con .none]) (.con .none) (.aS (0) 0 [(4)])),.bI (3) 1 (.aS (0) 0 [.bF (2) ("Class") ("Module")]),.bI (3) 12 (.lc (none::none::(some 0)::.nil) 1 (.bm .uI (.con (.ref 792)) [(1),.prim .tup []]) (.aS (2) 0 [(1)]) (.con (.bool true))),.bF (.attr (0) 40) ⟨.expr (.aS (0) 11 [(1)])⟩ .skip,.ret (3)⟩
noncomputable def rH:U:=⟨.bF (.or (.prim .isin [.prim .add [(1),(".")],.attr (0) 27]) (.prim .isin [.prim .add [(1),(".")],.attr (0) 28])) ⟨.expr (.call 544 [(0),.prim .item [.attr (0) 35,(1)]])⟩ .skip⟩
noncomputable def o9:U:=⟨.dQ 6 (.aS (0) 0 [.bF (2) ("Class") ("Module")]),.bF (.and (2) (.prim .is [(3),.con .none])) ⟨.dQ 3 (.aS (0) 0 [("Object")])⟩ .skip,.dQ 7 (.bF (.or (.prim .is [(4),.con .none]) (.call 281 [(4),.aS (0) 0 [("Object")]])) (.con .none) (4)),.dQ 8 (.make 228 [.aS (0) 6 [],(6),(1),(2),(3),(7)]),.bI (8) 14 (5),.ret (8)⟩
noncomputable def rG:U:=⟨.bF (.prim .is [(1),.con .none]) ⟨.ret (.aS (0) 0 [("NilClass")])⟩ .skip,.bF (.prim (.jH "bool") [(1)]) ⟨.ret (.aS (0) 0 [.bF (1) ("TrueClass") ("FalseClass")])⟩ .skip,.bF (.prim (.jH "int") [(1)]) ⟨.ret (.aS (0) 0 [("Integer")])⟩ .skip,.ret (.bF (.prim (.jH "str") [(1)]) (.aS (0) 0 [("Symbol")]) (.attr (1) 1))⟩
noncomputable def vI:U:=⟨.bF (.not (.prim (.isinst 40) [(1)])) ⟨.ret (.aS (0) 1 [(1)])⟩ .skip,.bF (.prim .isnot [.attr (1) 3,.con .none]) ⟨.ret (.attr (1) 3)⟩ .skip,.ret (.bF (.prim (.isinst 228) [(1)]) (.aS (0) 3 [(1)]) (.attr (1) 1))⟩
noncomputable def jD:U:=⟨.dQ 2 (.bF (.and (.attr (1) 7) (.not (.aS (1) 5 []))) (.attr (1) 8) (.con .none)),.sO (.prim .isnot [(2),.con .none]) ⟨.bF (.prim .isnot [.attr (2) 3,.con .none]) ⟨.ret (.attr (2) 3)⟩ .skip,.dQ 2 (.attr (2) 8)⟩,.ret (.attr (1) 1)⟩
noncomputable def sF:U:=⟨.sO (.or (.prim .is [.attr (1) 15,.con .none]) (.aS (1) 5 [])) ⟨.dQ 1 (.attr (1) 8)⟩,.ret (.attr (1) 15)⟩
noncomputable def zB:U:=⟨.ret (.make 62 [.aS (0) 6 [],.aS (0) 0 [("String")],(1)])⟩
noncomputable def sE:U:=⟨.ret (.make 82 [.aS (0) 6 [],.aS (0) 0 [("Array")],.prim .listof [(1)]])⟩
noncomputable def oF:U:=⟨.bF (.aS (1) 5 []) ⟨.expr (.aS (0) 20 [("TypeError"),("can't create instance of singleton class")])⟩ .skip,.iG (2::3::.nil) (.prim .tup [.aS (0) 4 [(1)],.aS (0) 6 []]),.bF (.prim .isin [(2),.con (.ref 800)]) ⟨.expr (.aS (0) 20 [("NoMethodError"),.prim .add [("undefined method 'new' for class "),.call 315 [(1)]]])⟩ .skip,.bF (.prim .eq [(2),("String")]) ⟨.ret (.make 62 [(3),(1),("")])⟩ .skip,.bF (.prim .eq [(2),("Array")]) ⟨.ret (.make 82 [(3),(1),.prim .list []])⟩ .skip,.bF (.prim .eq [(2),("Hash")]) ⟨.ret .bad⟩ .skip,.bF (.prim .eq [(2),("Range")]) ⟨.ret .bad⟩ .skip,.bF (.prim .eq [(2),("Fiber")]) ⟨.ret .bad⟩ .skip,.bF (.prim .eq [(2),("Proc")]) ⟨.ret .bad⟩ .skip,.bF (.prim .eq [(2),("Class")]) ⟨.ret (.make 228 [(3),(1),.con .none,.con (.bool true),.aS (0) 0 [("Object")]])⟩ .skip,.bF (.prim .eq [(2),("Module")]) ⟨.ret (.make 228 [(3),(1),.con .none,.con (.bool false)])⟩ .skip,.bF (.aS (0) 18 [(1)]) ⟨.ret (.make 181 [(3),(1)])⟩ .skip,.ret (.make 40 [(3),(1)])⟩
noncomputable def dZ:U:=⟨.sO (.prim .isnot [(1),.con .none]) ⟨.bF (.prim .eq [.attr (1) 15,("Exception")]) ⟨.ret (.con (.bool true))⟩ .skip,.dQ 1 (.attr (1) 8)⟩,.ret (.con (.bool false))⟩
noncomputable def wR:U:=⟨.ret (.make 181 [.aS (0) 6 [],.aS (0) 0 [(1)],.aS (0) 7 [(2)]])⟩
noncomputable def nT:U:=⟨.bF (.or (.not (.prim (.isinst 40) [(1)])) (.attr (1) 4)) ⟨.dQ 2 (.call 315 [.aS (0) 23 [.aS (0) 1 [(1)]]]),.expr (.aS (0) 20 [("FrozenError"),.prim .add [.prim .add [.prim .add [("can't modify frozen "),(2)],(": ")],.call 368 [(1)]]])⟩ .skip⟩
noncomputable def mS:U:=⟨.bF (.prim .isin [(2),.attr (1) 11]) ⟨.ret (.prim .tup [.con (.bool true),.prim .item [.attr (1) 11,(2)]])⟩ .skip,.bF (.and (.prim .isin [(2),.con (.ref 789)]) (.prim .eq [.attr (1) 15,("Object")])) ⟨.ret (.prim .tup [.con (.bool true),.aS (0) 0 [(2)]])⟩ .skip,.ret (.prim .tup [.con (.bool false),.con .none])⟩
noncomputable def lD:U:=⟨.iG (3::4::.nil) (.prim .tup [.aS (0) 0 [("Object")],.prim .tup [.con (.bool false),.con .none]]),.loop 5 (.call 474 [(0),(1)]) ⟨.bF (.and (.call 281 [(5),(3)]) (.not (.call 281 [(1),(3)]))) ⟨.ret (.prim .tup [.con (.bool false),.con .none])⟩ .skip,.dQ 4 (.aS (0) 14 [(5),(2)]),.bF (.prim .item [(4),.con (.int 0 0)]) ⟨.ret (4)⟩ .skip⟩,.ret (4)⟩
noncomputable def nS:U:=⟨.bF (.not (.prim (.isinst 228) [(1)])) ⟨.expr (.aS (0) 20 [("TypeError"),.prim .add [.call 368 [(1)],(" is not a class/module")]])⟩ .skip,.iG (3::4::.nil) (.aS (0) 13 [(1),(2)]),.bF (.not (3)) ⟨.dQ 5 (.bF (.call 281 [(1),.aS (0) 0 [("Object")]]) ("") (.prim .add [.call 315 [(1)],("::")])),.expr (.aS (0) 20 [("NameError"),.prim .add [.prim .add [("uninitialized constant "),(5)],(2)]])⟩ .skip,.ret (4)⟩
noncomputable def mT:U:=⟨.bF (.not (.prim (.isinst 228) [(1)])) ⟨.expr (.aS (0) 20 [("TypeError"),.prim .add [.call 368 [(1)],(" is not a class/module")]])⟩ .skip,.expr (.aS (0) 17 [(1)]),.fD (.attr (1) 11) (2) (3),.dQ 4 (.and (.prim (.isinst 228) [(3)]) (.and (.prim .is [.attr (3) 6,.con .none]) (.not (.aS (3) 5 [])))),.bF (.and (4) (.not (.call 1066 [(3),(1)]))) ⟨.bI (3) 6 (2),.bI (3) 9 (.bF (.call 281 [(1),.aS (0) 0 [("Object")]]) (.con .none) (1))⟩ .skip,.aug (0) 37 (.con (.int 1 0))⟩
noncomputable def vJ:U:=⟨.dQ 1 (.con (.int 0 0)),.loop 2 (.prim .upto [(0),.con (.int 24 0)]) ⟨.dQ 1 (.prim .add [.prim .add [.prim .mul [(1),.con (.int 1000003 0)],.prim .mul [.prim .mod [.prim .abs [(2)],.prim .pow [.con (.int 10 0),.con (.int 30 0)]],.con (.int 2 0)]],.prim .int [.prim .lt [(2),.con (.int 0 0)]]])⟩,.ret (.prim .list [(1),.con (.int 0 0)])⟩
noncomputable def Bg:U:=⟨.fD (0) (.con (.int 1 0)) (.prim .add [.prim .item [(0),.con (.int 1 0)],.con (.int 1 0)]),.bF (.prim .eq [.prim .item [(0),.con (.int 0 0)],.con (.int 0 0)]) ⟨.ret (.prim .mod [.prim .mod [.prim .add [.prim .add [.prim .mul [.prim .mul [.con (.int 6 0),.prim .item [(0),.con (.int 1 0)]],.prim .item [(0),.con (.int 1 0)]],.prim .item [(0),.con (.int 1 0)]],.con (.int 2 0)],.con (.int 67 0)],(1)])⟩ .skip,.dQ 2 (.prim .mod [.prim .item [(0),.con (.int 0 0)],(1)]),.fD (0) (.con (.int 0 0)) (.prim .fdiv [.prim .item [(0),.con (.int 0 0)],(1)]),.ret (2)⟩
noncomputable def zC:U:=⟨.CE (.Ac (0) []) 1 "error " 43 1 6,.ret ("done")⟩
noncomputable def CG:U:=⟨.ret (.Am ("thing"::"parent"::"methods"::"alone"::"consts"::"mixed"::"front"::.nil) [(0),(1),.prim .dict0 [],.prim .dict0 [],.prim .dict0 [],.prim .list [],.prim .list []])⟩
noncomputable def rZ:U:=⟨.dQ 2 (.prim .item [(0),(1)]),.dQ 3 (.bF (.prim .is [.prim .item [(2),("parent")],.con .none]) (.prim .list []) (.call 1099 [(0),.prim .item [(2),("parent")]])),.dQ 4 (.prim .add [.prim .add [.prim .rev [.prim .item [(2),("front")]],.prim .list [(1)]],.lc (none::none::(some 3)::(some 2)::.nil) 1 (.prim .rev [.prim .item [(2),("mixed")]]) (1) (.and (.prim .notin [(1),.prim .item [(3),("front")]]) (.prim .notin [(1),(2)]))]),.ret (.prim .add [(4),.lc (none::none::(some 4)::.nil) 1 (3) (1) (.prim .notin [(1),(2)])])⟩
noncomputable def qy:U:=⟨.loop 3 (.call 1099 [(0),(1)]) ⟨.bF (.prim .isin [(2),.prim .item [.prim .item [(0),(3)],("methods")]]) ⟨.ret (.prim .item [.prim .item [.prim .item [(0),(3)],("methods")],(2)])⟩ .skip⟩,.ret (.con .none)⟩
noncomputable def wU:U:=⟨.ret (.bF (.prim .is [(0),.con .none]) (.con .none) (.prim .tup [.attr (0) 23,.attr (0) 24]))⟩
noncomputable def mU:U:=⟨.iG (5::6::.nil) (.prim .tup [.prim .item [.prim .list [("x"),("y"),("z")],.call 1080 [(0),.con (.int 3 0)]],.prim .item [.prim .list [("public"),("private"),("protected")],.call 1080 [(0),.con (.int 3 0)]]]),.expr (.call 551 [(1),.prim .item [.prim .item [(2),(3)],("thing")],.make 256 [(5),.prim .item [.prim .item [(2),(3)],("thing")],("native"),.con .none,(4),(6)]]),.fD (.prim .item [.prim .item [(2),(3)],("methods")]) (5) (.prim .tup [(4),(6)]),.ret (.con (.bool true))⟩
noncomputable def eB:U:=⟨.iG (11::10::5::.nil) (.prim .tup [.prim .item [.prim .list [("x"),("y"),("z")],.call 1080 [(0),.con (.int 3 0)]],.prim .item [.prim .list [("x"),("w")],.call 1080 [(0),.con (.int 2 0)]],.call 1080 [(0),.con (.int 4 0)]]),.iG (6::12::7::.nil) (.prim .tup [.call 1106 [(2),(3),(11)],.prim .item [.prim .item [(2),(3)],("thing")],.prim .item [.prim .item [(2),(3)],("methods")]]),.dQ 8 (.prim .list [.lam 833000 (11::12::1::.nil) (yJ 833000),.lam 834000 (11::12::1::.nil) (yJ 834000)]),.dQ 8 (.prim .add [(8),.prim .list [.lam 836000 (10::11::12::1::.nil) (yJ 836000),.lam 837000 (11::12::1::.nil) (yJ 837000)]]),.dQ 9 (.bF (.prim .eq [(5),.con (.int 0 0)]) (.prim .is [.bm .qR (7) [(11)],.con .none]) (.prim .is [(6),.con .none])),.bF (.prim .ne [.prim .ne [.call 1087 [.prim .item [(8),(5)]],("done")],(9)]) ⟨.ret (.con (.bool false))⟩ .skip,.bF (9) ⟨.ret (.con (.bool true))⟩ .skip,.bF (.prim .eq [(5),.con (.int 0 0)]) ⟨.expr (.bm .pop (7) [(11)])⟩ ⟨.bF (.prim .eq [(5),.con (.int 1 0)]) ⟨.fD (7) (11) (.con .none)⟩ ⟨.bF (.prim .eq [(5),.con (.int 2 0)]) ⟨.fD (7) (10) (6)⟩ ⟨.bF (.or (.prim .ne [.prim .item [(6),.con (.int 1 0)],("private")]) (.prim .notin [(11),(7)])) ⟨.fD (7) (11) (.prim .tup [.prim .item [(6),.con (.int 0 0)],("private")])⟩ .skip⟩⟩⟩,.ret (.con (.bool true))⟩
noncomputable def qz:U:=⟨.iG (5::6::.nil) (.prim .tup [.prim .item [.prim .list [("M"),("N")],.call 1080 [(0),.con (.int 2 0)]],.call 1080 [(0),.con (.int 2 0)]]),.bF (.prim .eq [(6),.con (.int 0 0)]) ⟨.expr (.call 684 [(1),.prim .item [.prim .item [(2),(3)],("thing")],.prim .list [.prim .item [.prim .item [(2),(5)],("thing")]]])⟩ ⟨.expr (.call 691 [(1),.prim .item [.prim .item [(2),(3)],("thing")],.prim .list [.prim .item [.prim .item [(2),(5)],("thing")]]])⟩,.dQ 7 (.prim .item [.prim .item [(2),(3)],.prim .item [.prim .list [("mixed"),("front")],(6)]]),.bF (.prim .notin [(5),(7)]) ⟨.expr (.bm .append (7) [(5)])⟩ .skip,.ret (.con (.bool true))⟩
noncomputable def Bf:U:=⟨.iG (5::6::.nil) (.prim .tup [.prim .item [.prim .list [("K"),("L")],.call 1080 [(0),.con (.int 2 0)]],.call 1080 [(0),.con (.int 2 0)]]),.bF (.prim .eq [(6),.con (.int 0 0)]) ⟨.expr (.call 740 [(1),.prim .item [.prim .item [(2),(3)],("thing")],.prim .list [(5),(4)]]),.fD (.prim .item [.prim .item [(2),(3)],("consts")]) (5) (4)⟩ ⟨.dQ 7 (.call 544 [(1),.prim .item [.prim .item [(2),(3)],("thing")]]),.expr (.call 551 [(1),(7),.make 256 [(5),(7),("native"),.con .none,(4),("public")]]),.fD (.prim .item [.prim .item [(2),(3)],("alone")]) (5) (4)⟩,.ret (.con (.bool true))⟩
noncomputable def fN:U:=⟨.iG (3::4::.nil) (.prim .tup [.prim .item [.prim .item [(2),("C")],("thing")],.call 1080 [(0),.con (.int 2 0)]]),.dQ 5 (.bF (.prim .eq [(4),.con (.int 0 0)]) (.call 656 [(1),(3),.prim .list []]) (.call 663 [(1),(3),.prim .list []])),.fD (2) ("D") (.call 1094 [(5),.prim .item [.prim .item [(2),("C")],("parent")]]),.loop 6 (.prim .list [("methods"),("alone"),("consts")]) ⟨.fD (.prim .item [(2),("D")]) (6) (.prim .itemsdict [.prim .item [.prim .item [(2),("C")],(6)]])⟩,.loop 6 (.prim .list [("mixed"),("front")]) ⟨.fD (.prim .item [(2),("D")]) (6) (.prim .listof [.prim .item [.prim .item [(2),("C")],(6)]])⟩,.ret (.and (.prim .ne [.attr (5) 0,.attr (3) 0]) (.prim .is [.call 670 [(1),(5),.prim .list []],.con .none]))⟩
noncomputable def qx:U:=⟨.loop 3 (.call 1099 [(0),(1)]) ⟨.bF (.prim .isin [(2),.prim .item [.prim .item [(0),(3)],("consts")]]) ⟨.ret (.prim .item [.prim .item [.prim .item [(0),(3)],("consts")],(2)])⟩ .skip⟩,.ret ("error NameError")⟩
noncomputable def qw:U:=⟨.sO (.prim .isnot [(1),.con .none]) ⟨.bF (.prim .isin [(2),.prim .item [.prim .item [(0),(1)],("alone")]]) ⟨.ret (.prim .item [.prim .item [.prim .item [(0),(1)],("alone")],(2)])⟩ .skip,.dQ 1 (.prim .item [.prim .item [(0),(1)],("parent")])⟩,.ret (.con .none)⟩
noncomputable def jN:U:=⟨.loop 3 (2) ⟨.dQ 10 (.prim .item [(1),(3)]),.dQ 4 (.lc (none::none::.nil) 1 (.attr (.call 677 [(0),.prim .item [(10),("thing")],.prim .list []]) 18) (.attr (1) 0) (.con (.bool true))),.bF (.prim .ne [.prim .upto [(4),.prim .len [.call 1099 [(1),(3)]]],.lc (none::none::(some 1)::.nil) 1 (.call 1099 [(1),(3)]) (.attr (.prim .item [.prim .item [(2),(1)],("thing")]) 0) (.con (.bool true))]) ⟨.ret (.con (.bool false))⟩ .skip,.dQ 5 (.aS (0) 8 [.prim .item [(10),("thing")]]),.loop 11 (.prim .list [("x"),("y"),("z"),("w")]) ⟨.dQ 6 (.call 1106 [(1),(3),(11)]),.bF (.prim .ne [.call 1113 [.call 523 [(0),.prim .item [(10),("thing")],(11)]],(6)]) ⟨.ret (.con (.bool false))⟩ .skip,.dQ 7 (.prim .list [.call 642 [(0),(5),.prim .list [(11)]],.call 642 [(0),(5),.prim .list [(11),.con (.bool true)]]]),.bF (.prim .ne [(7),.prim .list [.and (.prim .isnot [(6),.con .none]) (.prim .eq [.prim .item [(6),.con (.int 1 0)],("public")]),.prim .isnot [(6),.con .none]]]) ⟨.ret (.con (.bool false))⟩ .skip⟩,.loop 11 (.prim .list [("K"),("L")]) ⟨.bF (.prim .ne [.call 1087 [.lam 907026 (10::11::0::.nil) (yJ 907026)],("done")]) ⟨.dQ 8 ("error NameError")⟩ ⟨.dQ 8 (.call 733 [(0),.prim .item [(10),("thing")],.prim .list [(11)]])⟩,.dQ 9 (.call 523 [(0),.aS (0) 2 [.prim .item [(10),("thing")]],(11)]),.bF (.or (.prim .ne [(8),.call 1155 [(1),(3),(11)]]) (.prim .ne [.bF (.prim .is [(9),.con .none]) (.con .none) (.attr (9) 23),.call 1162 [(1),(3),(11)]])) ⟨.ret (.con (.bool false))⟩ .skip⟩,.bF (.and (.prim .isnot [.prim .item [(10),("parent")],.con .none]) (.prim .ne [.attr (.call 747 [(0),.prim .item [(10),("thing")],.prim .list []]) 0,.attr (.prim .item [.prim .item [(1),.prim .item [(10),("parent")]],("thing")]) 0])) ⟨.ret (.con (.bool false))⟩ .skip⟩,.ret (.con (.bool true))⟩
noncomputable def r7:U:=⟨.iG (1::2::3::.nil) (.prim .tup [.call 1073 [(0)],.prim .int [.prim .gt [.prim .len [(0)],.con (.int 1 0)]],.make 1055 [.prim .dict0 []]]),.dQ 4 (.call 436 [(3),.aS (3) 0 [("Object")]]),.dQ 5 (.Am ("B"::"C"::.nil) [.call 1094 [(4),.con .none],.call 1094 [.call 436 [(3),(4)],("B")]]),.mK (5) ("M") (5) ("N") (.call 1094 [.call 443 [(3)],.con .none]) (.call 1094 [.call 443 [(3)],.con .none]),.iG (6::7::.nil) (.prim .tup [.prim .list [.con (.ref 1120),.con (.ref 1120),.con (.ref 1127),.con (.ref 1134),.con (.ref 1141)],.prim .list [("C"),("C"),("B"),("M")]]),.qe 8 (.prim .add [.con (.int 4 0),.prim .mul [.con (.int 6 0),(2)]]) ⟨.bF (.prim .eq [(8),.prim .add [.con (.int 2 0),.prim .mul [.con (.int 2 0),(2)]]]) ⟨.bF (.not (.call 1148 [(1),(3),(5)])) ⟨.ret (.con (.bool false))⟩ .skip,.dQ 7 (.prim .list [("C"),("D"),("C"),("D"),("B"),("M")])⟩ .skip,.iG (9::10::.nil) (.prim .tup [.prim .item [(7),.call 1080 [(1),.prim .len [(7)]]],.call 1080 [(1),.con (.int 5 0)]]),.dQ 11 (.bF (.prim .eq [(9),("M")]) (.con (.ref 1120)) (.prim .item [(6),(10)])),.bF (.or (.not (.Ac (11) [(1),(3),(5),(9),(8)])) (.not (.call 1167 [(3),(5),.bF (.prim .isin [("D"),(5)]) (.prim .list [("C"),("D")]) (.prim .list [("C")])]))) ⟨.ret (.con (.bool false))⟩ .skip⟩,.ret (.con (.bool true))⟩
end
structure Row where
 f:Ad
 k:Nat
 ext:Lv
 cs:List Bool
 u:U
noncomputable abbrev fF(n:Nat):List Bool:=List.replicate n false
noncomputable abbrev nN(n:Nat):Lv:=List.replicate n none
noncomputable def tab:List Row:=[⟨37,3,[],[false,false,false],zy⟩,⟨59,4,[none],(fF 5),Be⟩,⟨79,4,[none],(fF 5),rF⟩,⟨178,4,[none],(fF 5),qu⟩,⟨218,5,[some (.none),some (.none),none],(fF 8),dY⟩,⟨218,6,[some (.none),none],(fF 8),dY⟩,⟨218,7,[none],(fF 8),dY⟩,⟨225,1,[],[false],mR⟩,⟨245,7,[],(fF 7),zx⟩,⟨253,3,[some (.none),none,none],(fF 6),fM⟩,⟨253,4,[none,none],(fF 6),fM⟩,⟨267,1,[none,none],[false,false,false],Mg⟩,⟨274,1,(nN 4),(fF 5),Ge⟩,⟨281,2,[none,none],(fF 4),PC⟩,⟨315,1,[none,none],[false,false,false],Bj⟩,⟨375,2,(nN 4),(fF 6),Ga⟩,⟨382,2,[none,none,none],(fF 5),Bl⟩,⟨389,2,[none,none],(fF 4),sH⟩,⟨403,2,[none,none,none],(fF 5),zG⟩,⟨408,2,(nN 12),[true,false,false,false,false,false,false,false,false,false,false,false,false,false],Bh⟩,⟨422,2,(nN 4),(fF 6),jU⟩,⟨429,2,(nN 5),(fF 7),F0⟩,⟨436,2,(nN 4),(fF 6),zE⟩,⟨443,1,[],[false],wX⟩,⟨450,2,[none,none],(fF 4),Bk⟩,⟨457,1,[none,none,none],(fF 4),CJ⟩,⟨462,1,[none],[false,false],wV⟩,⟨467,2,(nN 10),[false,false,false,true,false,false,false,false,false,false,false,false],mV⟩,⟨474,2,[none],[false,false,false],rI⟩,⟨502,3,(nN 12),(fF 15),wW⟩,⟨509,3,[none,none],(fF 5),CI⟩,⟨516,3,[none,none,none],(fF 6),oG⟩,⟨523,3,[none,none],(fF 5),PB⟩,⟨530,1,[],[false],sM⟩,⟨537,2,[none,none],(fF 4),sL⟩,⟨544,2,(nN 7),(fF 9),k7⟩,⟨551,3,[none,none],(fF 5),JL⟩,⟨558,4,[none,none],(fF 6),w4⟩,⟨565,1,[],[false],Bm⟩,⟨572,3,(nN 4),(fF 7),zF⟩,⟨579,3,[none,none,none],(fF 6),CK⟩,⟨586,3,(nN 7),(fF 10),Bo⟩,⟨593,2,[],[false,false],JK⟩,⟨600,4,(nN 4),(fF 8),Mf⟩,⟨607,4,(nN 6),(fF 10),Bp⟩,⟨614,3,(nN 6),(fF 9),zH⟩,⟨621,3,(nN 4),(fF 7),F9⟩,⟨628,3,(nN 4),(fF 7),Gb⟩,⟨635,4,[none,none],(fF 6),Gd⟩,⟨642,3,(nN 4),(fF 7),rL⟩,⟨649,3,[none,none],(fF 5),CH⟩,⟨656,3,(nN 5),(fF 8),zJ⟩,⟨663,3,(nN 5),(fF 8),vN⟩,⟨670,3,[none],(fF 4),wZ⟩,⟨677,3,[none],(fF 4),wY⟩,⟨684,3,[none,none,none],(fF 6),rJ⟩,⟨691,3,[none,none,none],(fF 6),rK⟩,⟨698,3,[none,none,none],(fF 6),sJ⟩,⟨705,3,[none,none,none],(fF 6),vM⟩,⟨712,3,[none,none,none],(fF 6),vL⟩,⟨719,3,[none,none,none],(fF 6),sG⟩,⟨726,3,(nN 6),(fF 9),sI⟩,⟨733,3,[none,none],(fF 5),qA⟩,⟨740,3,[none,none],(fF 5),lK⟩,⟨747,3,[],[false,false,false],vK⟩,⟨762,2,[none],[false,false,false],sC⟩,⟨782,2,[none],[false,false,false],wQ⟩,⟨815,2,[some (.none),some (.none),some (.int 20000 0),none,none,none],(fF 8),zA⟩,⟨836,1,[],[false],vH⟩,⟨857,2,[none],[false,false,false],sD⟩,⟨862,2,(nN 7),[true,false,false,false,false,false,false,false,false],iE⟩,⟨869,2,[none],[false,false,false],rH⟩,⟨877,6,(nN 5),(fF 11),o9⟩,⟨884,2,(nN 4),(fF 6),rG⟩,⟨891,2,[none,none,none],(fF 5),vI⟩,⟨898,2,[none],[false,false,false],jD⟩,⟨905,2,[],[false,false],sF⟩,⟨919,2,[none],[false,false,false],zB⟩,⟨926,2,[none,none],(fF 4),sE⟩,⟨961,2,(nN 13),(fF 15),oF⟩,⟨968,2,[],[false,false],dZ⟩,⟨982,3,[none],(fF 4),wR⟩,⟨996,2,(nN 5),(fF 7),nT⟩,⟨1017,3,[none],(fF 4),mS⟩,⟨1038,3,(nN 5),(fF 8),lD⟩,⟨1045,3,(nN 8),(fF 11),nS⟩,⟨1052,4,(nN 6),(fF 10),mT⟩,⟨1073,1,(nN 4),(fF 5),vJ⟩,⟨1080,2,[none],[false,false,false],Bg⟩,⟨1087,1,[none,none],[false,false,false],zC⟩,⟨1094,2,[],[false,false],CG⟩,⟨1099,2,(nN 4),[false,false,true,true,true,false],rZ⟩,⟨1106,3,[none,none],(fF 5),qy⟩,⟨1113,1,[],[false],wU⟩,⟨1120,5,(nN 5),(fF 10),mU⟩,⟨1127,5,(nN 11),[false,true,false,false,false,false,false,false,false,false,true,true,true,false,false,false],eB⟩,⟨1134,5,(nN 6),(fF 11),qz⟩,⟨1141,5,(nN 8),(fF 13),Bf⟩,⟨1148,3,(nN 11),(fF 14),fN⟩,⟨1155,3,[none,none],(fF 5),qx⟩,⟨1162,3,[],[false,false,false],qw⟩,⟨1167,3,(nN 21),[true,true,false,false,false,false,false,false,false,false,true,true,false,false,false,false,false,false,false,false,false,false,false,false],jN⟩,⟨1174,1,(nN 26),(fF 27),r7⟩]
noncomputable def Ui:Data->Op (Array Va)
 | .seq f _=>some f
 | _=>none
theorem Kz{d:Data}{f:Array Va}(h:Ui d=some f):∃ n,d=.seq f n:=by cases d<;>first|exact bB h|exact⟨_,aj (λx=>Data.seq x _) (kr h)⟩
noncomputable def Ug:Data->Op (Array Va)
 | .fields f=>some f
 | _=>none
theorem Kw{d:Data}{f:Array Va}(h:Ug d=some f):d=.fields f:=by cases d<;>first|exact bB h|exact aj _ (kr h)
noncomputable def PG:Va->Op Ad
 | .ref a=>some a
 | _=>none
theorem Bq{d:Va}{f:Ad}(h:PG d=some f):d=.ref f:=by cases d<;>first|exact bB h|exact aj _ (kr h)
noncomputable def vStr:Va->Op Str
 | .str a _=>some a
 | _=>none
theorem JN{d:Va}{f:Str}(h:vStr d=some f):∃ n,d=.str f n:=by cases d<;>first|exact bB h|exact⟨_,aj (λx=>Value.str x _) (kr h)⟩
noncomputable def Nj:Va->Op Unit
 | .none=>some ⟨⟩
 | _=>none
theorem Gf{d:Va}{f:Unit}(h:Nj d=some f):d=.none:=by cases d<;>first|exact bB h|rfl
noncomputable def Nc{α:Type}:Sem α->Op α
 | .pure a=>some a
 | _=>none
theorem Fp{α:Type}{d:Sem α}{f:α}(h:Nc d=some f):d=.pure f:=by cases d<;>first|exact bB h|exact aj _ (kr h)
noncomputable def S8(K:Frag)(fd:FuncData):Op (Op (Array Va)):=((Nj fd.defaults).map λ_=>none).or ((PG fd.defaults).bind λT=>(K.lookup T).bind λo=>(Ui o.data).map some)
noncomputable def Mw(fd:FuncData)(as:List Va):{k // bindArgs fd ⟨as,[]⟩=seqItems? fd.defaults>>=k}:=⟨_,rfl⟩
noncomputable def vm:List Str->Bool
 | []=>true
 | x::r=>!r.contains x&&vm r
theorem xP:∀{l:List Str},vm l=true->l.Nodup:=by
 intro rr;induction rr with
 | nil=>exactλj=>.nil
 | cons x r ih=>intro h;change (!r.contains x&&vm r)=true at h;simp only[e9,i6] at h;rw[jj];refine⟨λq=>?_,ih h.2⟩;rw[List.contains_iff_mem.mpr q] at h;cases h.1
noncomputable def Up:Op NameKind->Bool
 | some .local=>true
 | some .cell=>true
 | _=>false
theorem Oh:∀{k:Op NameKind},Up k=true->k=some .local\/k=some .cell
 | none,h=>gP h
 | some k,h=>by cases k<;>first|exact .inl rfl|exact .inr rfl|exact gP h
noncomputable def bindB(scope:Scope)(binds:List (Str × Va)):Bool:=vm (binds.map (·.1))&&binds.all λx=>Up (scope.names.lookup x.1)
theorem GG{scope:Scope}{binds:List (Str × Va)}(h:bindB scope binds=true):oH scope binds:=by unfold bindB at h;rw[e9] at h;refine⟨xP h.1,λx hx=>?_⟩;have:=dz h.2 x hx;exact Oh this
noncomputable def sumOf(K:Frag)(fd:FuncData)(as:List Va):Op (Lv):=(S8 K fd).bind λd=>(Nc ((Mw fd as).1 d)).bind λbinds=>if bindB fd.scope binds then some (fP fd.scope binds) else none
theorem CA{K:Frag}{fd:FuncData}{as:List Va}{l0:Lv}(h:sumOf K fd as=some l0){s:Sh}(X:K.In s.heap):∃ binds,BindsTo s fd ⟨as,[]⟩ binds/\oH fd.scope binds/\fP fd.scope binds=l0:=by
 obtain⟨d,hd,h⟩:=dg h;obtain⟨binds,hb,h⟩:=dg h;obtain⟨k,hk',hb⟩:∃ k,bindArgs fd ⟨as,[]⟩=seqItems? fd.defaults>>=k/\k d=.pure binds:=⟨_,(Mw fd as).2,Fp hb⟩
 by_cases hk:bindB fd.scope binds=true
 ·rw[ai hk] at h
  refine⟨binds,?_,GG hk,kr h⟩;rcases Option.or_eq_some_iff.mp hd with q|⟨-,q⟩
  ·obtain⟨u,hn,q⟩:=dw q
   subst q;refine .of_eq (hk'.trans ?_);rw[Gf hn];exact hb
  ·obtain⟨T,hT,q⟩:=dg q
   obtain⟨⟨c,n,o,s⟩,hl,q⟩:=dg q;obtain⟨items,hi,q⟩:=dw q;subst q;obtain⟨n,q⟩:=Kz hi;exact .of_defaults (Bq hT) (X _ _ hl) q hk' hb
 ·rw[aa hk] at h
  exact bB h
noncomputable def kindB:ScopeKind->Bool
 | .function=>true
 | _=>false
noncomputable def Aq(K:Frag)(f:Ad)(fd:FuncData):Bool:=
 (So K f).isSome&&(SO fd.body).isSome&&fd.closure.isEmpty&&(fd.globals==mainGlobals)&&(fd.builtins==builtinsNs)&&!fd.scope.isCoroutine&&!fd.scope.isGenerator&&kindB fd.scope.kind&&vm (fd.scope.names.map (·.1))&&
 (((PG fd.code).bind λc=>(K.lookup c).bind λo=>(Ug o.data).bind λvs=>(vs[1]?).bind vStr)==some fd.qualname)&&
 ([0,880000].all λk=>!(fd.scope.names.map (·.1)==gR k)||((fd.code==.ref (eZ k))&&(fd.qualname++".<locals>."++"<lambda>"==gF k)))
end
theorem T5(P:Params):(tab.all λr=>Aq (Kf P) r.f (fnAt P r.f))=true:=by kernel_rfl
theorem JH(P:Params):tab.map (λr=>jF (Kf P) 50 (fnAt P r.f).scope.names (jR P r.f))=tab.map (·.u):=by kernel_rfl
theorem R8(P:Params):tab.map (λr=>aK (fnAt P r.f).scope.names)=tab.map (·.cs):=by kernel_rfl
theorem R9(P:Params):tab.map (λr=>iY (fnAt P r.f).scope)=tab.map (λr=>r.cs.any id):=by kernel_rfl
theorem Vu(P:Params)(g:Nat->Va):tab.map (λr=>sumOf (Kf P) (fnAt P r.f) ((List.range r.k).map g))=tab.map λr=>some ((List.range r.k).map (λi=>some (ab (g i)))++r.ext):=by kernel_rfl
theorem Fc(l:List Va):(List.range l.length).map (λi=>l.getD i .none)=l:=List.ext_getElem (by simp) λi h₁ bA=>by simp [List.getD,bA]
theorem JG(P:Params):∀ r∈tab,∀ as:List Va,as.length=r.k->sumOf (Kf P) (fnAt P r.f) as=some (as.map (λv=>some (ab v))++r.ext):=λr hr as hl=>by have h:=List.map_inj_left.mp (Vu P λi=>as.getD i .none) r hr;have e:(List.range r.k).map (λi=>as.getD i .none)=as:=hl▸Fc as;rw[e] at h;refine h.trans (aj (λl=>some (l++r.ext)) ?_);exact(ir (f:=λi=>as.getD i .none) (g:=λv=>some (ab v))).symm.trans (aj _ e)
theorem Ar{K:Frag}{f:Ad}{fd:FuncData}{o:Obj}(hl:K.lookup f=some o)(hd:o.data=.func fd)(h:Aq K f fd=true)(k:List Stmt)(hb:fd.body=.stmts k):zM K f fd k:=by
 unfold Aq at h;simp only[e9,az,i6] at h;obtain⟨⟨⟨⟨⟨⟨⟨⟨⟨⟨h1,h2⟩,h3⟩,h4⟩,h5⟩,h6⟩,h7⟩,h8⟩,h9⟩,h10⟩,h11⟩:=h;refine⟨⟨o,hl,hd⟩,hb,List.isEmpty_iff.mp h3,h4,h5,h6,h7,?_,xP h9,?_,?_⟩
 ·revert h8;cases fd.scope.kind<;>intro q<;>first|rfl|cases q
 ·obtain⟨c,hc,q⟩:=dg h10
  obtain⟨o,ho,q⟩:=dg q;obtain⟨vs,hv,q⟩:=dg q;obtain⟨x,hx,q⟩:=dg q;obtain⟨t,q⟩:=JN q;exact⟨c,o,vs,t,Bq hc,ho,Kw hv,hx.trans (aj some q)⟩
 ·intro k hk
  simp only[List.all_cons,List.all_nil,Bool.and_true,e9,j4,i6,beq_eq_false_iff_ne,az] at h11;obtain⟨g1,g2⟩:=h11;by_cases hq:rV k=true
  ·have e1:gR k=gR 0:=by unfold gR;rw[hq];rfl
   have e2:eZ k=eZ 0:=by unfold eZ;rw[hq];rfl
   have e3:gF k=gF 0:=by unfold gF;rw[hq];rfl
   rw[e2,e3];exact g1.resolve_left λq=>q (hk.trans e1)
  ·have hq:rV k=false:=by simpa using hq
   have e1:gR k=gR 880000:=by unfold gR;rw[hq];rfl
   have e2:eZ k=eZ 880000:=by unfold eZ;rw[hq];rfl
   have e3:gF k=gF 880000:=by unfold gF;rw[hq];rfl
   rw[e2,e3];exact g2.resolve_left λq=>q (hk.trans e1)
theorem MI(P:Params):∀ r∈tab,zM (Kf P) r.f (fnAt P r.f) (jR P r.f):=λr hr=>by
 have h:=dz (T5 P) r hr;have h1:=h;unfold Aq at h1;simp only[e9] at h1;have h1:=h1.1.1.1.1.1.1.1.1.1;obtain⟨fd,hf⟩:=cz h1.1;obtain⟨b,hb⟩:=cz h1.2;obtain⟨o,hl,hd⟩:=Dj _ hf;have e:fnAt P r.f=fd:=by unfold fnAt;rw[hf];rfl
 have e2:jR P r.f=b:=by unfold jR;rw[hb];rfl
 refine Ar hl (hd.trans (aj _ e.symm)) h _ ((J7 hb).trans (aj _ e2.symm))
theorem xr{n:Nat}{r:Row}{vs:List Va}{Ph:PH}{X:XP}{Q:VQ}(hr:r∈tab)(hl:vs.length=r.k)
  (h:wpS n r.cs r.u (vs.map some++r.ext) Ph (λe P'=>X e (if r.cs.any id then bJ P' else P')) (λ_ P'=>Q .none (if r.cs.any id then bJ P' else P')) (λv P'=>Q v (if r.cs.any id then bJ P' else P'))):
  Calls (n+1) r.f vs Ph X Q:=by
 have hc:=List.map_inj_left.mp (JH wd.params) r hr;have hs:=List.map_inj_left.mp (R8 wd.params) r hr;have hh:=List.map_inj_left.mp (R9 wd.params) r hr;refine BP (qb wd.params) (MI wd.params r hr) (λs args X hv=>?_) hc ?_ (l0:=vs.map some++r.ext)
 ·subst hv
  have:=CA (JG wd.params r hr args (by simpa using hl)) X;rw[ir];exact this
 ·rw[hs]
  have e:∀ P',ret (fnAt wd.params r.f).scope P'=if r.cs.any id then bJ P' else P':=λP'=>by unfold ret;rw[hh]
  simp only[e];exact h
theorem aB(i:Nat){n:Nat}{f:Ad}{k:Nat}{ext:Lv}{cs:List Bool}{u:U}{vs:List Va}{Ph:PH}{X:XP}{Q:VQ}(hr:tab[i]?=some ⟨f,k,ext,cs,u⟩)(hl:vs.length=k)(nc:cs.any id=false)
  (h:wpS n cs u (vs.map some++ext) Ph X (λ_ P'=>Q .none P') Q):Calls (n+1) f vs Ph X Q:=by refine xr (r:=⟨f,k,ext,cs,u⟩) (g4 hr) hl ?_;simp only[nc];exact h
section
variable{Ph:PH}{a b C:Ad}{fs:List (Nat × Va)}{x:Nat}{v:Va}{vs us:List Va}{kvs:List (Str × Va)}{t t':Nat × Nat}
theorem bt{A B:Prop}{c:Bool}(e:c=true)(h:A):aV (.bool c) A B:=by subst e;exact h
theorem bf{A B:Prop}{c:Bool}(e:c=false)(h:B):aV (.bool c) A B:=by subst e;exact h
theorem aG{R:Va->Prop}(h:Ph a=some (.inst C fs))(hf:gQ C x=true)(hg:eF x fs=some v)(hh:handedIn v=true)(hq:R v):(match Ph a with
 | some (.inst C fs)=>gQ C x=true/\(match eF x fs with
  | some v=>handedIn v=true/\R v
  | none=>False)
 | some (.exc C fs)=>(C=785/\cS x=true)/\(match eF x fs with
  | some v=>handedIn v=true/\R v
  | none=>False)
 | _=>False):=by rw[h];dsimp only;rw[hg];exact⟨hf,hh,hq⟩
theorem Qh{R:Va->Prop}(h:Ph a=some (.exc 785 fs))(hf:cS x=true)(hg:eF x fs=some v)(hh:handedIn v=true)(hq:R v):(match Ph a with
 | some (.inst C fs)=>gQ C x=true/\(match eF x fs with
  | some v=>handedIn v=true/\R v
  | none=>False)
 | some (.exc C fs)=>(C=785/\cS x=true)/\(match eF x fs with
  | some v=>handedIn v=true/\R v
  | none=>False)
 | _=>False):=by rw[h];dsimp only;rw[hg];exact⟨⟨rfl,hf⟩,hh,hq⟩
theorem bQ{R1 R3:Ad->List (Nat × Va)->Prop}{R2:Ad->Prop}(h:Ph a=some (.inst C fs))(hf:gQ C x=true)(hl:fs.length<900)(hq:R1 C fs):(match Ph a with
 | some (.inst C fs)=>gQ C x=true/\fs.length<900/\R1 C fs
 | some (.raw C)=>(C=785/\cS x=true)/\R2 C
 | some (.jX C fs)=>(C=785/\cS x=true/\fs.length<900)/\R3 C fs
 | _=>False):=by rw[h];exact⟨hf,hl,hq⟩
theorem RX{R1 R3:Ad->List (Nat × Va)->Prop}{R2:Ad->Prop}(h:Ph a=some (.raw 785))(hf:cS x=true)(hq:R2 785):(match Ph a with
 | some (.inst C fs)=>gQ C x=true/\fs.length<900/\R1 C fs
 | some (.raw C)=>(C=785/\cS x=true)/\R2 C
 | some (.jX C fs)=>(C=785/\cS x=true/\fs.length<900)/\R3 C fs
 | _=>False):=by rw[h];exact⟨⟨rfl,hf⟩,hq⟩
theorem RY{R1 R3:Ad->List (Nat × Va)->Prop}{R2:Ad->Prop}(h:Ph a=some (.jX 785 fs))(hf:cS x=true)(hl:fs.length<900)(hq:R3 785 fs):(match Ph a with
 | some (.inst C fs)=>gQ C x=true/\fs.length<900/\R1 C fs
 | some (.raw C)=>(C=785/\cS x=true)/\R2 C
 | some (.jX C fs)=>(C=785/\cS x=true/\fs.length<900)/\R3 C fs
 | _=>False):=by rw[h];exact⟨⟨rfl,hf,hl⟩,hq⟩
theorem aU{m:Nat}{f:Ad}{R:Ad->Ad->List (Nat × Va)->Prop}(h:Ph a=some (.inst C fs))(hm:bO C m=some f)(hx:match bL m with|some x=>eF x fs=none|none=>True)(hq:R f C fs):(match Ph a with
 | some (.inst C fs)=>(match bO C m with
  | some f=>(match bL m with
   | some x=>eF x fs=none
   | none=>True)/\R f C fs
  | none=>False)
 | _=>False):=by rw[h];dsimp only;rw[hm];exact⟨hx,hq⟩
theorem oQ{R:Prop}(h:Ph a=some (.inst C fs))(hs:(eV.lookup C).isSome=true)(hq:R):(match Ph a with
 | some (.inst C _)=>(eV.lookup C).isSome=true/\R
 | _=>False):=by rw[h];exact⟨hs,hq⟩
theorem bS{R:Ad->Prop}(h:Ph a=some (.inst C fs))(hs:(eV.lookup C).isSome=true)(hq:R C):(match Ph a with
 | some (.inst C _)=>(eV.lookup C).isSome=true/\R C
 | _=>False):=by rw[h];exact⟨hs,hq⟩
theorem yL{R:List Va->Prop}(h:Ph a=some (.list t vs))(hl:vs.length<big)(hq:R vs):(match Ph a with
 | some (.list _ vs)=>vs.length<big/\R vs
 | _=>False):=by rw[h];exact⟨hl,hq⟩
theorem BG{R:Nat × Nat->List Va->Prop}(h:Ph a=some (.list t vs))(hl:vs.length<big)(hq:R t vs):(match Ph a with
 | some (.list t vs)=>vs.length<big/\R t vs
 | _=>False):=by rw[h];exact⟨hl,hq⟩
theorem Tg{R:Nat × Nat->List Va->List Va->Prop}(h:Ph a=some (.list t vs))(h':Ph b=some (.list t' us))(hl:a≠b/\vs.length<big/\us.length<big)(hq:R t vs us):(match Ph a with
 | some (.list t vs)=>(match Ph b with
  | some (.list _ us)=>(a≠b/\vs.length<big/\us.length<big)/\R t vs us
  | _=>False)
 | _=>False):=by rw[h,h'];exact⟨hl,hq⟩
theorem Gy{R:List Va->List Va->Prop}(h:Ph a=some (.list t vs))(h':Ph b=some (.list t' us))(hl:vs.length<big/\us.length<big)(hq:R vs us):(match Ph a with
 | some (.list _ vs)=>(match Ph b with
  | some (.list _ us)=>(vs.length<big/\us.length<big)/\R vs us
  | _=>False)
 | _=>False):=by rw[h,h'];exact⟨hl,hq⟩
theorem uK{R:List (Str × Va)->Prop}(h:Ph a=some (.dict t kvs))(hq:R kvs):(match Ph a with
 | some (.dict _ kvs)=>R kvs
 | _=>False):=by rw[h];exact hq
theorem dF{o:PO}(h:Ph a=some o):rd Ph a=some o:=by unfold rd;rw[h]
theorem MJ{R:List (Str × Va)->Prop}(h:Ph a=some (.dict t kvs))(hq:R kvs):(match rd Ph a with
 | some (.dict _ kvs)=>R kvs
 | _=>False):=by rw[dF h];exact hq
theorem Ib{R:List Va->Prop}(h:Ph a=some (.list t vs))(hl:vs.length<big)(hq:R vs):iC Ph->(match rd Ph a with
 | some (.list _ vs)=>vs.length<big/\R vs
 | _=>False):=λq=>by rw[dF h];exact⟨hl,hq⟩
theorem aO{R:Va->Prop}{k:Str}(h:Ph a=some (.dict t kvs))(hk:aR k kvs=some v)(hq:R v):DJ (rd Ph a) λkvs=>Bv (aR k kvs) R:=by rw[dF h];show Bv (aR k kvs) R;rw[hk];exact hq
theorem cB{R:Va->Prop}{i:Int}(h:Ph a=some (.list t vs))(h0:0<=i)(h1:i<2^62)(hk:vs[i.toNat]?=some v)(hq:R v):Ka (Ph a) (λvs=>0<=i/\i<2^62/\Bv vs[i.toNat]? R) λvs=>0<=i/\i<2^62/\Bv vs[i.toNat]? R:=by rw[h];refine⟨h0,h1,?_⟩;rw[hk];exact hq
theorem oj{R:Va->Prop}{i:Int}(h:Ph a=some (.tup vs))(h0:0<=i)(h1:i<2^62)(hk:vs[i.toNat]?=some v)(hq:R v):Ka (Ph a) (λvs=>0<=i/\i<2^62/\Bv vs[i.toNat]? R) λvs=>0<=i/\i<2^62/\Bv vs[i.toNat]? R:=by rw[h];refine⟨h0,h1,?_⟩;rw[hk];exact hq
theorem tE{R1 R2:List Va->Prop}{R3:List (Str × Va)->Prop}(h:Ph a=some (.list t vs))(hl:vs.length<big)(hq:R1 vs):(match Ph a with
 | some (.list _ vs)=>vs.length<big/\R1 vs
 | some (.tup vs)=>vs.length<big/\R2 vs
 | some (.dict _ kvs)=>kvs.length<big/\R3 kvs
 | _=>False):=by rw[h];exact⟨hl,hq⟩
theorem KY{R1 R2:List Va->Prop}{R3:List (Str × Va)->Prop}(h:Ph a=some (.dict t kvs))(hl:kvs.length<big)(hq:R3 kvs):(match Ph a with
 | some (.list _ vs)=>vs.length<big/\R1 vs
 | some (.tup vs)=>vs.length<big/\R2 vs
 | some (.dict _ kvs)=>kvs.length<big/\R3 kvs
 | _=>False):=by rw[h];exact⟨hl,hq⟩
theorem cW{R:List (Str × Va)->Prop}(h:Ph a=some (.dict t kvs))(hl:kvs.length<big)(hq:R kvs):(match Ph a with
 | some (.dict _ kvs)=>kvs.length<big/\R kvs
 | _=>False):=by rw[h];exact⟨hl,hq⟩
theorem RE{R:Va->List (Str × Va)->Prop}{k:Str}(h:Ph a=some (.dict t kvs))(hl:kvs.length<big)(hk:aR k kvs=some v)(hq:R v kvs):DJ (Ph a) λkvs=>kvs.length<big/\Bv (aR k kvs) λv=>R v kvs:=by rw[h];refine⟨hl,?_⟩;rw[hk];exact hq
theorem Jo{R:Nat × Nat->List Va->Prop}{i:Int}(h:Ph a=some (.list t vs))(hl:0<=i/\i.toNat<vs.length/\vs.length<big)(hq:R t vs):(match Ph a with
 | some (.list t vs)=>(0<=i/\i.toNat<vs.length/\vs.length<big)/\R t vs
 | _=>False):=by rw[h];exact⟨hl,hq⟩
theorem inD{k:Str}(h:rd Ph a=some (.dict t kvs)){tk:Tok}:PU Ph (.str k tk) (.ref a)=some (aR k kvs).isSome:=by
 show(match rd Ph a with
  | some (.dict _ kvs)=>some (aR k kvs).isSome
  | some (.list _ vs)=>fZ k vs
  | some (.tup vs)=>fZ k vs
  | _=>none)=_
 rw[h]
theorem Uo{k:Str}(h:rd Ph a=some (.tup vs)){tk:Tok}:PU Ph (.str k tk) (.ref a)=fZ k vs:=by
 show(match rd Ph a with
  | some (.dict _ kvs)=>some (aR k kvs).isSome
  | some (.list _ vs)=>fZ k vs
  | some (.tup vs)=>fZ k vs
  | _=>none)=_
 rw[h]
theorem QV{k:Str}(h:rd Ph a=some (.list t vs)){tk:Tok}:PU Ph (.str k tk) (.ref a)=fZ k vs:=by
 show(match rd Ph a with
  | some (.dict _ kvs)=>some (aR k kvs).isSome
  | some (.list _ vs)=>fZ k vs
  | some (.tup vs)=>fZ k vs
  | _=>none)=_
 rw[h]
theorem nR{R:List Va->Prop}(h:Ph a=some (.tup vs))(hq:R vs):(match Ph a with
 | some (.tup vs)=>R vs
 | _=>False):=by rw[h];exact hq
theorem OE{R1:List (Str × Va)->Prop}{R2:PO->List Va->Prop}(h:Ph a=some (.dict t kvs))(hq:kvs.length<big/\R1 kvs):(match Ph a with
 | some (.dict _ kvs)=>kvs.length<big/\R1 kvs
 | some o=>(match itemsOf o with
  | some vs=>vs.length<big/\R2 o vs
  | none=>False)
 | none=>False):=by rw[h];exact hq
theorem cO{R1:List (Str × Va)->Prop}{R2:PO->List Va->Prop}(h:Ph a=some (.list t vs))(hl:vs.length<big)(hq:R2 (.list t vs) vs):(match Ph a with
 | some (.dict _ kvs)=>kvs.length<big/\R1 kvs
 | some o=>(match itemsOf o with
  | some vs=>vs.length<big/\R2 o vs
  | none=>False)
 | none=>False):=by rw[h];exact⟨hl,hq⟩
end
section
variable{n:Nat}{Ph:PH}{X:XP}{Q:VQ}
theorem pR{a C:Ad}{fs:List (Nat × Va)}(h:Ph a=some (.inst C fs))(hs:(eV.lookup C).isSome=true)(hq:Q (.str "thing" 0) Ph):Calls (n+1) 274 [.ref a] Ph X Q:=aB 12 rfl rfl rfl ⟨rfl,oQ h hs (oQ h hs (oQ h hs hq))⟩
theorem NH{a b C C':Ad}{fs fs':List (Nat × Va)}{i j:Int}(h:Ph a=some (.inst C fs))(hs:(eV.lookup C).isSome=true)(hf:gQ C 0=true)(hg:eF 0 fs=some (.int i 0))(h':Ph b=some (.inst C' fs'))(hs':(eV.lookup C').isSome=true)(hf':gQ C' 0=true)(hg':eF 0 fs'=some (.int j 0))
  (hq:Q (.bool (decide (i=j))) Ph):Calls (n+2) 281 [.ref a,.ref b] Ph X Q:=by refine aB 13 rfl rfl rfl ?_;refine pR h hs ?_;refine pR h' hs' ?_;refine aG h hf hg rfl ?_;refine aG h' hf' hg' rfl ?_;exact hq
end
noncomputable def jA(P:Params)(a:Ad):Obj:=((HA.Bw P).get a).getD default
theorem N7(P:Params):yH.map (λa=>((HA.Bw P).get a).bind alive)=yH.map λa=>some (jA P a):=by kernel_rfl
theorem QM:∀ a∈yH,a<1175/\a≠1122/\a≠1164/\a≠sysModules:=⋯
theorem Ig{f:Ad->Obj}{a:Ad}{o:Obj}:∀{l:List Ad},(l.map λa=>(a,f a)).lookup a=some o->a∈l/\o=f a:=by
 intro l;induction l with
 | nil=>exactλh=>by cases h
 | cons b l ih=>
  intro h;rw[gn,f6] at h;by_cases e:a=b
  ·subst e;rw[bg] at h;obtain rfl:=kr h;exact⟨.head _,rfl⟩
  ·rw[beq_eq_false_iff_ne.mpr e] at h;have r:=ih h;exact⟨.tail _ r.1,r.2⟩
theorem HJ{P:Params}{a:Ad}{o:Obj}(ha:a<1175)(g:((HA.Bw P).get a).bind alive=some o):(H1 P).get? a=some o:=by
 cases q:(HA.Bw P).get a with
 | none=>rw[q] at g;cases g
 | some x=>rw[q] at g;exact(abs_get ha q).trans g
theorem QF{P:Params}{a:Ad}{o:Obj}(h:(Kf P).lookup a=some o):(H1 P).get? a=some o/\a≠1122/\a≠1164:=by obtain⟨h1,rfl⟩:=Ig h;have:=QM a h1;exact⟨HJ this.1 (List.map_inj_left.mp (N7 P) a h1),this.2.1,this.2.2.1⟩
theorem N9(P:Params):([1122,1164]:List Ad).map (λa=>((HA.Bw P).get a).bind alive)=[some (tabObj #[]),some (tabObj #[])]:=by kernel_rfl
theorem HK(P:Params):((HA.Bw P).get mainGlobals).bind alive=some (HA.qS P 121 "law_nz0059_01" 1876):=by kernel_rfl
theorem N6(P:Params):((HA.Bw P).get sysModules).bind alive=some (jA P sysModules):=by kernel_rfl
theorem N8(P:Params):((HA.Bw P).get 4).bind alive=some { cls:=.type "module",dict:=some 0 }:=by kernel_rfl
noncomputable def Ji(o:Obj):List Va:=match o.data with
 | .seq vs _=>vs.toList
 | _=>[]
noncomputable def jG(o:Obj):List DictEntry:=match o.data with
 | .dict es _=>es.toList
 | _=>[]
noncomputable def Eu(o:Obj):Nat:=match o.data with
 | .dict _ n=>n
 | _=>0
noncomputable def kt(e:DictEntry):Str × Nat × Va:=match e.key with
 | .str k t=>(k,t,e.val)
 | _=>("",0,.none)
noncomputable def tups:List Ad:=[788,793,794,795,796,797,798,799,800]
theorem KO(P:Params):tups.map (λa=>((HA.Bw P).get a).bind alive)=tups.map λa=>some (HA.t (Ji (jA P a))):=by kernel_rfl
theorem KN(P:Params):tups.map (λa=>some (PO.tup ((Ji (jA P a)).map ab)))=tups.map nQ:=by kernel_rfl
theorem QG(P:Params):((HA.Bw P).get 789).bind alive=some (HA.dc (jG (jA P 789)) (Eu (jA P 789))):=by kernel_rfl
theorem QH(P:Params):((HA.Bw P).get 792).bind alive=some (HA.dc (jG (jA P 792)) (Eu (jA P 792))):=by kernel_rfl
noncomputable def kd(P:Params)(q:Str × Nat × Va):DictEntry:=⟨PyData.keyHash P q.1,.str q.1 q.2.1,q.2.2⟩
theorem QI(P:Params):jG (jA P 789)=((jG (jA P 789)).map kt).map (kd P):=by kernel_rfl
theorem QJ(P:Params):jG (jA P 792)=((jG (jA P 792)).map kt).map (kd P):=by kernel_rfl
theorem QK(P:Params):some (PO.dict (0,0) (((jG (jA P 789)).map kt).map λq=>(q.1,ab q.2.2)))=nQ 789:=by kernel_rfl
theorem QL(P:Params):some (PO.dict (0,0) (((jG (jA P 792)).map kt).map λq=>(q.1,ab q.2.2)))=nQ 792:=by kernel_rfl
theorem Dg{l:List (Str × Nat × Va)}{n:Nat}(nd:(l.map (·.1)).Nodup):(HA.dc (l.map (kd wd.params)) n).IsDictOf (PySem.strKind pw wd) (l.map λq=>(q.1,q.2.2)):=by
 refine⟨_,_,⟨rfl,rfl,rfl⟩,rfl,λe he=>?_,?_,by rw[ir];exact nd⟩
 ·obtain⟨q,hq,rfl⟩:=List.mem_map.mp (List.mem_toArray.mp he)
  exact⟨q.1,bz _ wd q.1 q.2.1,rfl⟩
 ·show Pairs _ (l.map (kd wd.params)) _
  clear nd;induction l with
  | nil=>exact .nil
  | cons q l ih=>exact .cons (bz _ wd q.1 q.2.1) rfl ih
theorem IL(P:Params):nsFind (jG (HA.qS P 121 "law_nz0059_01" 1876)).toArray "law"=some (.ref 1174)/\nsFind (jG (HA.qS P 121 "law_nz0059_01" 1876)).toArray "__builtins__"=some (.ref 4):=⟨by kernel_rfl,by kernel_rfl⟩
theorem yV{h:Heap}{a:Ad}{m:Str->Op Va}{l:List Ad}(n:h.Ns a m)(ha:a∉l):(hideAll h l).Ns a m:=let ⟨o,es,ep,e,r⟩:=n;⟨o,es,ep,br _ e ha,r⟩
theorem Ii{env:Env}{G:HF}{binds:List (Str × Va)}{scope:Scope}(hs:env.scope=scope)(nd:(scope.names.map (·.1)).Nodup)(hb:(binds.map (·.1)).Nodup)(hl:∀ x∈binds,scope.names.lookup x.1=some .local):lq env G (λx=>binds.reverse.lookup x) (fP scope binds):=by
 intro i v hi;unfold fP at hi;rw[gj] at hi;cases hn:scope.names[i]? with
 | none=>rw[hn] at hi;cases hi
 | some q=>
  obtain⟨y,k⟩:=q;rw[hn] at hi;simp only[i7,je] at hi;cases hb':binds.lookup y with
  | none=>rw[hb'] at hi;cases hi
  | some v'=>rw[hb'] at hi;simp only[i7,je] at hi;have hkl:k=.local:=kr ((aT nd hn).symm.trans (hl (y,v') (mem_of_lookup hb')));subst hkl;refine⟨y,.local,by rw[hs];exact hn,.inl ⟨rfl,v',?_,hi⟩⟩;refine fK ?_ (List.mem_reverse.mpr (mem_of_lookup hb'));rw[jl];exact(List.reverse_perm _).nodup_iff.mpr hb
noncomputable def uV:Row:=⟨1174,1,List.replicate 26 none,List.replicate 27 false,r7⟩
theorem tC:uV∈tab:=g4 (i:=102) rfl
theorem EK:((fnAt wd.params 1174).scope.names.all λx=>x.2 !=.cell)=true:=by kernel_rfl
theorem AD:(fnAt wd.params 1174).closure=[]:=by kernel_rfl
theorem qE{a:Ad}{o:PO}(h:upd (upd (λq=>none) 1122 (.tab [])) 1164 (.tab []) a=some o):o=.tab []/\a∈([1122,1164]:List Ad):=by
 by_cases e:a=1164
 ·subst e;rw[aA] at h;obtain rfl:=kr h;exact⟨rfl,()⟩
 ·rw[aD e] at h
  by_cases e':a=1122
  ·subst e';rw[aA] at h;obtain rfl:=kr h;exact⟨rfl,()⟩
  ·rw[aD e'] at h;cases h
variable{sA aF:Sh}{mg mb:Str->Op Va}
theorem rX(y:YP wd aF.heap){a:Ad}{o:Obj}(ha:a<1175)(g:((HA.Bw wd.params).get a).bind alive=some o):aF.heap.get? a=some o:=y _ _ (HJ ha g)
theorem zu(y:YP wd aF.heap){a:Ad}(ha:a∈([1122,1164]:List Ad)):aF.heap.get? a=some (tabObj #[]):=by
 have h:=N9 wd.params;have h1:=(List.cons.inj h).1;have h2:=(List.cons.inj (List.cons.inj h).2).1;rcases ku ha with e|e
 ·rw[e];exact rX y () h1
 ·rw[cu e];exact rX y () h2
theorem L7(y:YP wd aF.heap)(hs:∃ (vs:List Va) (n:Nat),aF.heap.get? vQ=some (listOf vs.toArray n)/\vs.map ab=IK.map λi=>.int i 0):nQ vQ=some (.list (0,0) (IK.map λi=>.int i 0))/\vQ∉([1122,1164]:List Ad)/\∀ a o,nQ a=some o->cY (hideAll aF.heap [1122,1164]) (λj=>none) 0 a o:=by
 obtain⟨vs,n,e,hv⟩:=hs;have tn:∀ a∈tups,aF.heap.get? a=some (HA.t (Ji (jA wd.params a))):=λa ha=>rX y ((by decide +kernel:∀ a∈tups,a<1175) a ha) (List.map_inj_left.mp (KO wd.params) a ha);have dn:aF.heap.get? 789=some (HA.dc (jG (jA wd.params 789)) (Eu (jA wd.params 789))):=rX y () (QG _);have en:aF.heap.get? 792=some (HA.dc (jG (jA wd.params 792)) (Eu (jA wd.params 792))):=rX y () (QH _);have c:∀{o:Obj},aF.heap.get? vQ=some o->o.cls=.type "list":=λh=>by rw[e] at h;obtain rfl:=kr h;rfl
 have n1:vQ∉tups:=λh=>by have:=c (tn _ h);injection this with q;exact absurd q ()
 have n2:vQ≠789:=λh=>by have:=c (h▸dn);injection this with q;exact absurd q ()
 have n3:vQ≠792:=λh=>by have:=c (h▸en);injection this with q;exact absurd q ()
 have n4:vQ∉([1122,1164]:List Ad):=λh=>by have:=c (zu y h);cases this
 have el:∀{a},a∉tups->a≠789->a≠792->nQ a=if a=vQ then some (.list (0,0) (IK.map λi=>.int i 0)) else none:=λ{a} h1 h2 h3=>by unfold tups at h1;simp only[kh,gk,or_false,not_or] at h1;obtain⟨q1,q2,q3,q4,q5,q6,q7,q8,q9⟩:=h1;unfold nQ;rw[aa q1,aa h2,aa h3,aa q2,aa (by simp [q3,q4,q5]),aa (by simp [q6,q7,q8]),aa q9]
 refine⟨by rw[el n1 n2 n3,ai rfl],n4,λa o h=>?_⟩;have hid:∀{a o},a∉([1122,1164]:List Ad)->aF.heap.get? a=some o->(hideAll aF.heap [1122,1164]).get? a=some o:=λh e=>br _ e h;by_cases h1:a∈tups
 ·have r:=List.map_inj_left.mp (KN wd.params) a h1
  rw[h] at r;obtain rfl:=kr r;exact⟨_,0,hid ((by decide +kernel:∀ a∈tups,a∉([1122,1164]:List Ad)) a h1) (tn a h1),rfl⟩
 by_cases h2:a=789
 ·subst h2
  rw[<-QK wd.params] at h;obtain rfl:=kr h;refine⟨⟨_,_,hid () dn,(by rw[QI];exact Dg ⋯),by rw[ir];rfl⟩,λq=>absurd q ()⟩
 by_cases h3:a=792
 ·subst h3
  rw[<-QL wd.params] at h;obtain rfl:=kr h;refine⟨⟨_,_,hid () en,(by rw[QJ];exact Dg ⋯),by rw[ir];rfl⟩,λq=>absurd q ()⟩
 rw[el h1 h2 h3] at h;by_cases h4:a=vQ
 ·subst h4
  rw[ai rfl] at h;obtain rfl:=kr h;exact⟨vs,n,hid n4 e,hv⟩
 ·rw[aa h4] at h;cases h
section
noncomputable def I5:Op Ad->Va
 | none=>.none
 | some a=>.ref a
noncomputable def jB:Op Str->Va
 | none=>.none
 | some s=>.str s 0
theorem yZ(o:Op Ad):handedIn (I5 o)=true:=by cases o<;>rfl
theorem tM(o:Op Str):handedIn (jB o)=true:=by cases o<;>rfl
theorem jK(o:Op Ad):kZ (I5 o)=true:=by cases o<;>rfl
theorem mF(o:Op Str):kZ (jB o)=true:=by cases o<;>rfl
noncomputable def par(i:Nat):Op Nat:=(([none,some 0,some 1,some 2,none,none,none,some 1,some 1,some 1,some 9,some 10,some 1,some 12,some 12,none,none,some 3,some 17,some 18,some 19,some 19]:List (Op Nat))[i]?).join
noncomputable def gJ(i:Nat):Bool:=!([4,5,6,15,16]:List Nat).contains i
noncomputable def qk(i:Nat):Nat:=if gJ i then 3 else 2
noncomputable def gU(i:Nat):Op Nat:=([(17,0),(18,1),(19,12),(20,13),(21,14)]:List (Nat × Nat)).lookup i
noncomputable def cU(i:Nat):Op Nat:=([(0,17),(1,18),(12,19),(13,20),(14,21)]:List (Nat × Nat)).lookup i
noncomputable def nat(i:Nat):Op Str:=([(0,"BasicObject"),(1,"Object"),(2,"Module"),(3,"Class"),(4,"Kernel"),(5,"Comparable"),(6,"Enumerable"),(7,"String"),(8,"Array"),(9,"Exception"),(10,"StandardError"),(11,"NameError"),(17,"BasicObject."),(18,"Object.")]:List (Nat × Str)).lookup i
noncomputable def qC(i:Nat):Op Str:=if i<12 then nat i else none
noncomputable def vV(i:Nat):List Nat:=if i=1 then [4] else if i=7 then [5] else if i=8 then [6] else []
abbrev Ent:=Op (Int × Str)
structure Co where
 mt:List (Str × Ent)
 ct:List (Str × Int)
 mx:List Nat
 ah:List Nat
structure Cont where
 ex:Nat->Bool
 lk:Nat->Bool
 c:Nat->Co
structure Wc where
 W:Ad
 nd:Ad
 pd:Ad
 si:Ad
 gK:Ad
 gl:Ad
 ot:Ad
 ready:Bool
 mn:Op Ad
structure k9 where
 ad:Nat->Op Ad
 num:Nat->Int
noncomputable def miss(A:k9):Nat:=(List.range 12).countP λi=>(A.ad i).isNone
structure Nm where
 N:Int
 V:Int
 cv:Int
 md:List (Str × Va)
structure ya where
 nm:Str
 ow:Ad
 nt:Ad
structure Kp where
 fd:Ad
 md:Ad
 cd:Ad
 xd:Ad
 ad:Ad
 tg:Nat × Nat
 ea:Str->Ad
 er:Str->ya
 kp:Op (Ad × Ad × Int × List Nat)
noncomputable def Rb:Op Ad->List (Nat × Va)
 | none=>[]
 | some a=>[(41,.ref a)]
noncomputable def sN(w:Wc)(n:Nm):List (Nat × Va):=(27,.ref w.nd)::(28,.ref w.pd)::(29,.none)::(30,.int 20000 0)::(31,.int 0 0)::(32,.int n.N 0)::(33,.int 8 0)::(34,.ref w.si)::(35,.ref w.gK)::(36,.int n.V 0)::(37,.int n.cv 0)::(38,.ref w.gl)::(39,.ref w.ot)::(40,.bool w.ready)::Rb w.mn
theorem qB(w:Wc)(n:Nm):(sN w n).length<900:=by unfold sN;cases w.mn<;>exact bl
noncomputable def Tc:Ent->Str
 | none=>"none"
 | some _=>"native"
noncomputable def S9:Ent->Va
 | none=>.none
 | some q=>.int q.1 0
noncomputable def Uj:Ent->Str
 | none=>"public"
 | some q=>q.2
noncomputable def sZ(d:Ent)(r:ya):List (Nat × Va):=[(6,.str r.nm 0),(1,.ref r.ow),(21,.str (Tc d) 0),(22,.none),(23,S9 d),(24,.str (Uj d) 0),(25,.ref r.nt),(26,.none)]
noncomputable def k9.rf(A:k9)(o:Op Nat):Va:=I5 (o.bind A.ad)
noncomputable def k9.dB(A:k9)(l:List Nat):List Va:=l.map λj=>A.rf (some j)
noncomputable def Kp.kv(k:Kp):Va:=I5 (k.kp.map (·.1))
noncomputable def OC(A:k9)(i:Nat):Bool->Va
 | true=>A.rf (cU i)
 | false=>.none
noncomputable def lI(A:k9)(lk:Bool)(i:Nat)(k:Kp):List (Nat × Va):=[(0,.int (A.num i) 0),(1,A.rf (some (qk i))),(2,.ref k.fd),(3,OC A i lk),(4,.bool false),(5,.none),(6,jB (qC i)),(7,.bool (gJ i)),(8,A.rf (par i)),(9,.none),(10,.ref k.md),(11,.ref k.cd),(12,.ref k.xd),(13,.ref k.ad),(14,A.rf (gU i)),(15,jB (nat i)),(16,k.kv)]
noncomputable def mG(C:Cont)(i:Nat):List Nat:=(C.c i).ah.reverse++i::(C.c i).mx.reverse
noncomputable def lU(behind:List Nat):Nat->List Nat->List Nat->List Nat
 | _,[],found=>found
 | c,x::r,found=>lU behind (c-1) r (if !found.contains x&&(decide (0<c)||!behind.contains x) then found++[x] else found)
noncomputable def eG(C:Cont)(behind:List Nat)(i:Nat):List Nat:=
 let found:=lU behind (C.c i).ah.length (mG C i) []
 found++behind.filter λx=>!found.contains x
noncomputable def jJ(C:Cont):Nat->Nat->List Nat
 | 0,_=>[]
 | k+1,i=>eG C (match par i with
   | some p=>jJ C k p
   | none=>[]) i
noncomputable def aX(C:Cont)(i:Nat):List Nat:=jJ C 12 i
abbrev Tag:=Nat × Nat
theorem xR{a b:PO}(h:Nat.beq a.ctorIdx b.ctorIdx=false:=by rfl):a≠b:=λe=>by rw[e,Nat.beq_refl] at h;exact lz h
theorem eW{a b i j:Nat}(h:a≠b:=by decide):((a,i):Tag)≠(b,j):=λe=>h (aj Prod.fst e)
abbrev eO:=Ad->Op Tag
noncomputable def refsOf(C:Cont)(i:Nat):List Nat:=qk i::((par i).toList++(gU i).toList++(C.c i).mx++(C.c i).ah++(if C.lk i then(cU i).toList else []))
structure D5(P:PH)(A:k9)(C:Cont)(h:eO)(V:Int)(i:Nat)(a:Ad)(k:Kp):Prop where
 at_:P a=some (.inst 228 (lI A (C.lk i) i k))
 fd:P k.fd=some (.dict (0,0) [])
 md:P k.md=some (.dict k.tg ((C.c i).mt.map λq=>(q.1,.ref (k.ea q.1))))
 cd:P k.cd=some (.dict (0,0) ((C.c i).ct.map λq=>(q.1,.int q.2 0)))
 xd:P k.xd=some (.list (0,0) (A.dB (C.c i).mx))
 ad:P k.ad=some (.list (0,0) (A.dB (C.c i).ah))
 ent:∀ q∈(C.c i).mt,P (k.ea q.1)=some (.inst 256 (sZ q.2 (k.er q.1)))/\h (k.ea q.1)=some (9,99)
 kp:∀ kt kl v ln,k.kp=some (kt,kl,v,ln)->(P kt=some (.tup [.int v 0,.ref kl])/\P kl=some (.list (0,0) (A.dB ln))/\h kt=some (7,99)/\h kl=some (8,99))/\v<=V/\(v=V->ln=aX C i)/\∀ j∈ln,∃ b,A.ad j=some b
 oa:h a=some (0,i)
 of:h k.fd=some (5,i)
 om:h k.md=some (1,i)
 oc:h k.cd=some (2,i)
 ox:h k.xd=some (3,i)
 od:h k.ad=some (4,i)
noncomputable def oh:List (List Nat):=[[],[15],[16],[15,16],[16,15]]
noncomputable def NO:List (List Nat):=oh++[[4],[5],[6]]
noncomputable def bH:List Str:=["x","y","z","w","K","L"]
structure jQ(C:Cont):Prop where
 base:∀ i,i<12\/14<i->(C.c i).ct=[]/\(C.c i).mx=vV i/\(C.c i).ah=[]
 Br:∀ i,i<12\/15<i/\i<19->(C.c i).mt=[]
 us:∀ i,(C.c i).mx∈NO/\(C.c i).ah∈NO
 u5:∀ i,12<=i->(C.c i).mx∈oh/\(C.c i).ah∈oh
 nd:∀ i,((C.c i).mt.map (·.1)).Nodup/\∀ q∈(C.c i).mt,q.1∈bH
 nc:∀ i,((C.c i).ct.map (·.1)).Nodup/\∀ q∈(C.c i).ct,q.1∈bH
structure Core(w:Wc)(C:Cont)(S:List Nat)(P:PH)(A:k9)(h:eO)(n:Nm)(kp:Nat->Kp):Prop where
 W:P w.W=some (.inst 1055 (sN w n))
 gK:P w.gK=some (.dict (0,0) n.md)
 nd:P w.nd=some (.dict (0,0) [])
 pd:P w.pd=some (.dict (0,0) [])
 vf:n.md.length+miss A<=12
 wJ:∀ q∈n.md,q.1.length<big
 ve:∀ i x,qC i=some x->aR x n.md=(A.ad i).map .ref
 mod:∀ i a,A.ad i=some a->i∉S->D5 P A C h n.V i a (kp i)
 ref:∀ i a,A.ad i=some a->i∉S->∀ j∈refsOf C i,∃ b,A.ad j=some b
 inj:∀ i j a b,A.ad i=some a->A.ad j=some b->A.num i=A.num j->i=j
 le:∀ i a,A.ad i=some a->A.num i<=n.N/\i<22
 lk:∀ i,C.lk i=true->∃ a,A.ad i=some a
 ex:∀ i,12<=i->(A.ad i).isSome=C.ex i
 wf:jQ C
 oW:h w.W=some (5,50)
 om:h w.gK=some (6,50)
 on:h w.nd=some (7,50)
 op:h w.pd=some (7,50)
 ry:∀ c t,h c=some t->∃ o,P c=some o/\o.bR=false
structure Z(w:Wc)(C:Cont)(S:List Nat) where
 P:PH
 A:k9
 h:eO
 n:Nm
 kp:Nat->Kp
 K:Core w C S P A h n kp
def Fr(P:PH)(h:eO)(P':PH)(h':eO):Prop:=∀ c o,P c=some o->o.bR=false->(h c=none\/∃ t,h c=some (t,99))->P' c=some o/\h' c=h c
structure Le{w w':Wc}{C C':Cont}{S S':List Nat}(z:Z w C S)(z':Z w' C' S'):Prop where
 fr:Fr z.P z.h z'.P z'.h
 ad:∀ i a,z.A.ad i=some a->z'.A.ad i=some a/\z'.A.num i=z.A.num i
theorem Fr.refl(P:PH)(h:eO):Fr P h P h:=λj j q j j=>⟨q,rfl⟩
theorem Fr.trans{P P' P'':PH}{h h' h'':eO}(a:Fr P h P' h')(b:Fr P' h' P'' h''):Fr P h P'' h'':=λc o q l k=>
 have x:=a c o q l k;have y:=b c o x.1 l (x.2▸k)
 ⟨y.1,y.2.trans x.2⟩
section
variable{w w' w'':Wc}{C C' C'':Cont}{S S' S'':List Nat}{z:Z w C S}{z':Z w' C' S'}{z'':Z w'' C'' S''}
theorem Le.refl(z:Z w C S):Le z z:=⟨Fr.refl z.P z.h,λq q h=>⟨h,rfl⟩⟩
theorem Le.trans(a:Le z z')(b:Le z' z''):Le z z'':=⟨a.fr.trans b.fr,λi x h=>⟨(b.ad i x (a.ad i x h).1).1,(b.ad i x (a.ad i x h).1).2.trans (a.ad i x h).2⟩⟩
theorem Core.keep{P P':PH}{A:k9}{h:eO}{n:Nm}{kp:Nat->Kp}(K:Core w C S P A h n kp)(hP:∀ c o t,h c=some t->P c=some o->o.bR=false->P' c=some o):Core w C S P' A h n kp:=
 {W:=hP _ _ _ K.oW K.W rfl,gK:=hP _ _ _ K.om K.gK rfl,nd:=hP _ _ _ K.on K.nd rfl,pd:=hP _ _ _ K.op K.pd rfl
  mod:=λi a e s=>have M:=K.mod i a e s
   {at_:=hP _ _ _ M.oa M.at_ rfl,fd:=hP _ _ _ M.of M.fd rfl,md:=hP _ _ _ M.om M.md rfl,cd:=hP _ _ _ M.oc M.cd rfl,xd:=hP _ _ _ M.ox M.xd rfl,ad:=hP _ _ _ M.od M.ad rfl
    ent:=λq hq=>⟨hP _ _ _ (M.ent q hq).2 (M.ent q hq).1 rfl,(M.ent q hq).2⟩
    kp:=λkt kl v ln e=>have k:=M.kp kt kl v ln e;⟨⟨hP _ _ _ k.1.2.2.1 k.1.1 rfl,hP _ _ _ k.1.2.2.2 k.1.2.1 rfl,k.1.2.2⟩,k.2⟩
    oa:=M.oa,of:=M.of,om:=M.om,oc:=M.oc,ox:=M.ox,od:=M.od }
  vf:=K.vf,wJ:=K.wJ,ve:=K.ve,ref:=K.ref,inj:=K.inj,le:=K.le,lk:=K.lk,ex:=K.ex,wf:=K.wf,oW:=K.oW,om:=K.om,on:=K.on,op:=K.op
  ry:=λc t q=>have r:=K.ry c t q;r.elim λo ho=>⟨o,hP c o t q ho.1 ho.2,ho.2⟩ }
theorem Z.un(z:Z w C S){e:Ad}(he:z.P e=none):z.h e=none:=by
 cases q:z.h e with
 | none=>rfl
 | some t=>exact(z.K.ry e t q).elim λo ho=>by rw[he] at ho;cases ho.1
noncomputable def Z.put(z:Z w C S)(e:Ad)(o:PO)(he:z.h e=none):Z w C S:=⟨upd z.P e o,z.A,z.h,z.n,z.kp,z.K.keep λc o' t q q' j=>(aD λx=>by rw[x,he] at q;cases q).trans q'⟩
noncomputable def Z.new(z:Z w C S)(e:Ad)(o:PO)(he:z.P e=none):Z w C S:=z.put e o (z.un he)
theorem cR{P:PH}{a:Ad}{o:PO}(h:P a=some o)(q:o.bR=false):bJ P a=some o:=by unfold bJ;rw[h];show(if o.bR=true then none else some o)=_;rw[q];rfl
noncomputable def Z.drop(z:Z w C S):Z w C S:=⟨bJ z.P,z.A,z.h,z.n,z.kp,z.K.keep λj j j j q' q=>cR q' q⟩
def Nw(z:Z w C S)(e:Ad):Prop:=∀ o,z.P e=some o->o.bR=false->(z.h e=none\/∃ t,z.h e=some (t,99))->False
theorem Nw.none(z:Z w C S){e:Ad}(h:z.P e=none):Nw z e:=λo q j j=>by rw[h] at q;cases q
theorem Nw.of(a:Le z z'){e:Ad}(h:Nw z' e):Nw z e:=λo q l k=>have x:=a.fr e o q l k;h o x.1 l (x.2▸k)
theorem Le.put(a:Le z z'){e:Ad}(o:PO)(he:Nw z e)(he':z'.h e=none):Le z (z'.put e o he'):=⟨λc o' q l k=>⟨(aD λx=>by subst x;exact he o' q l k).trans (a.fr c o' q l k).1,(a.fr c o' q l k).2⟩,a.ad⟩
noncomputable def Z.alt(z:Z w C S){e:Ad}(he:z.h e=none)(P':PH)(al:∀ c,c≠e->P' c=z.P c):Z w C S:=⟨P',z.A,z.h,z.n,z.kp,z.K.keep λc o' t q q' j=>(al c λx=>by rw[x,he] at q;cases q).trans q'⟩
theorem Le.alt(a:Le z z'){e:Ad}(he:Nw z e)(he':z'.h e=none)(P':PH)(al:∀ c,c≠e->P' c=z'.P c):Le z (z'.alt he' P' al):=⟨λc o' q l k=>⟨(al c λx=>by subst x;exact he o' q l k).trans (a.fr c o' q l k).1,(a.fr c o' q l k).2⟩,a.ad⟩
theorem Le.new(a:Le z z'){e:Ad}(o:PO)(he':z'.P e=none):Le z (z'.new e o he'):=a.trans
 ⟨λc o' q l k=>⟨(aD λx=>by rw[x,he'] at q;cases q).trans q,rfl⟩,λj j h=>⟨h,rfl⟩⟩
theorem Le.drop(a:Le z z'):Le z z'.drop:=a.trans ⟨λc o q l j=>⟨cR q l,rfl⟩,λj j h=>⟨h,rfl⟩⟩
theorem Z.at_(z:Z w C S){i:Nat}{a:Ad}(h:z.A.ad i=some a)(hs:i∉S):z.P a=some (.inst 228 (lI z.A (C.lk i) i (z.kp i))):=(z.K.mod i a h hs).at_
end
end
section
variable{w w' w'':Wc}{C C' C'':Cont}{S S' S'':List Nat}{A A':k9}{h h':eO}{V V':Int}{i:Nat}{a:Ad}{k:Kp}
theorem DQ(hA:∀ j b,A.ad j=some b->A'.ad j=some b/\A'.num j=A.num j){j:Nat}(e:∃ b,A.ad j=some b):A'.rf (some j)=A.rf (some j):=e.elim λb q=>by unfold k9.rf;rw[jv,jv,q,(hA j b q).1]
theorem o5(hA:∀ j b,A.ad j=some b->A'.ad j=some b/\A'.num j=A.num j){o:Op Nat}(e:∀ j∈o.toList,∃ b,A.ad j=some b):A'.rf o=A.rf o:=by
 cases o with
 | none=>rfl
 | some j=>exact DQ hA (e j (by rw[Option.toList_some];exact .head _))
theorem zh(hA:∀ j b,A.ad j=some b->A'.ad j=some b/\A'.num j=A.num j){l:List Nat}(e:∀ j∈l,∃ b,A.ad j=some b):A'.dB l=A.dB l:=jy λj hj=>DQ hA (e j hj)
theorem tG(C:Cont)(i:Nat):qk i∈refsOf C i:=.head _
theorem iL{j:Nat}(h:j∈(par i).toList):j∈refsOf C i:=jd _ (fh _ (fh _ (fh _ (fh _ h))))
theorem yQ{j:Nat}(h:j∈(gU i).toList):j∈refsOf C i:=jd _ (fh _ (fh _ (fh _ (fq _ h))))
theorem u7{j:Nat}(h:j∈(C.c i).mx):j∈refsOf C i:=jd _ (fh _ (fh _ (fq _ h)))
theorem u6{j:Nat}(h:j∈(C.c i).ah):j∈refsOf C i:=jd _ (fh _ (fq _ h))
theorem Im{j:Nat}(l:C.lk i=true)(h:cU i=some j):j∈refsOf C i:=jd _ (fq _ (by rw[l,h];exact .head _))
theorem mem_some{j:Nat}{o:Op Nat}(h:o=some j):j∈o.toList:=by rw[h];exact .head _
theorem Io{lk':Bool}(hA:∀ j b,A.ad j=some b->A'.ad j=some b/\A'.num j=A.num j)(ha:A.ad i=some a)(hr:∀ j∈refsOf C i,∃ b,A.ad j=some b)(l:lk'=C.lk i):lI A' lk' i k=lI A (C.lk i) i k:=by
 subst l;unfold lI
 have hO:OC A' i (C.lk i)=OC A i (C.lk i):=by
  cases q:C.lk i with
  | false=>rfl
  | true=>exact o5 hA λj hj=>hr j (Im q (Option.mem_toList.mp hj))
 rw[(hA i a ha).2,DQ hA (hr _ (tG ..)),hO,o5 hA λj hj=>hr j (iL hj),o5 (o:=gU i) hA λj hj=>hr j (yQ hj)]
theorem D5.move(M:D5 P A C h V i a k)(ha:A.ad i=some a)(hr:∀ j∈refsOf C i,∃ b,A.ad j=some b)
  (hP:∀ c o t,h c=some t->t.2=i\/t.2=99->P c=some o->o.bR=false->P' c=some o/\h' c=some t)
  (hA:∀ j b,A.ad j=some b->A'.ad j=some b/\A'.num j=A.num j) (hl:C'.lk i=C.lk i) (hc:C'.c i=C.c i) (hV:V<=V') (hL:V'=V->aX C' i=aX C i):D5 P' A' C' h' V' i a k:=
 have p1:=hP _ _ _ M.oa (.inl rfl) M.at_ rfl;have p2:=hP _ _ _ M.of (.inl rfl) M.fd rfl;have p3:=hP _ _ _ M.om (.inl rfl) M.md rfl;have p4:=hP _ _ _ M.oc (.inl rfl) M.cd rfl;have p5:=hP _ _ _ M.ox (.inl rfl) M.xd rfl;have p6:=hP _ _ _ M.od (.inl rfl) M.ad rfl
 {at_:=by rw[Io hA ha hr hl];exact p1.1
  fd:=p2.1,md:=by rw[hc];exact p3.1,cd:=by rw[hc];exact p4.1
  xd:=by rw[hc,zh hA λj hj=>hr j (u7 hj)];exact p5.1
  ad:=by rw[hc,zh hA λj hj=>hr j (u6 hj)];exact p6.1
  ent:=λq hq=>by rw[hc] at hq;exact hP _ _ _ (M.ent q hq).2 (.inr rfl) (M.ent q hq).1 rfl
  kp:=λkt kl v ln e=>
   have q:=M.kp kt kl v ln e;have q1:=hP _ _ _ q.1.2.2.1 (.inr rfl) q.1.1 rfl;have q2:=hP _ _ _ q.1.2.2.2 (.inr rfl) q.1.2.1 rfl
   ⟨⟨q1.1,by rw[zh hA q.2.2.2];exact q2.1,q1.2,q2.2⟩,jt q.2.1 hV,λe=>by have e2:V'=V:=Int.le_antisymm (e▸q.2.1) hV;rw[hL e2];exact q.2.2.1 (e.trans e2),λj hj=>(q.2.2.2 j hj).imp λb x=>(hA j b x).1⟩
  oa:=p1.2,of:=p2.2,om:=p3.2,oc:=p4.2,ox:=p5.2,od:=p6.2 }
noncomputable def Z.gZ(z:Z w C S)(N V cv:Int)(hN:z.n.N<=N)(hV:z.n.V<=V):Z w C S where
 P:=upd z.P w.W (.inst 1055 (sN w ⟨N,V,cv,z.n.md⟩))
 A:=z.A
 h:=z.h
 n:=⟨N,V,cv,z.n.md⟩
 kp:=z.kp
 K:=
  have K:=z.K;have ne:∀{c o t},z.h c=some t->t≠(5,50)->z.P c=some o->upd z.P w.W (.inst 1055 (sN w ⟨N,V,cv,z.n.md⟩)) c=some o:=λq r p=>(aD λx=>r (by subst x;exact kr (q.symm.trans K.oW))).trans p
  {W:=aA ..,gK:=ne K.om () K.gK,nd:=ne K.on () K.nd,pd:=ne K.op () K.pd,vf:=K.vf,wJ:=K.wJ,ve:=K.ve
   mod:=λi a e s=>(K.mod i a e s).move e (K.ref i a e s) (λc o t q r p y=>⟨ne q (λx=>by
    subst x;rcases r with r|r
    ·exact absurd (K.le i a e).2 (by rw[<-r];decide)
    ·cases r) p,q⟩) (λj b q=>⟨q,rfl⟩) rfl rfl hV λy=>rfl
   ref:=K.ref,inj:=K.inj,le:=λi a e=>⟨jt (K.le i a e).1 hN,(K.le i a e).2⟩,lk:=K.lk,ex:=K.ex,wf:=K.wf,oW:=K.oW,om:=K.om,on:=K.on,op:=K.op
   ry:=λc t q=>by
    by_cases x:c=w.W
    ·exact⟨_,by rw[x];exact aA ..,rfl⟩
    ·obtain⟨o,h1,h2⟩:=K.ry c t q
     exact⟨o,(aD x).trans h1,h2⟩ }
end
section
variable{m:Nat}{X:XP}{Q:VQ}{w:Wc}{C:Cont}{S:List Nat}(z:Z w C S){i j:Nat}{a b:Ad}
theorem Le.gZ{w':Wc}{C':Cont}{S':List Nat}{z':Z w' C' S'}{z:Z w C S}(l:Le z' z){N V cv:Int}(hN:z.n.N<=N)(hV:z.n.V<=V):Le z' (z.gZ N V cv hN hV):=l.trans
 ⟨λc o q j k=>⟨(aD λx=>by rw[x,z.K.oW] at k;rcases k with k|⟨t,k⟩<;>cases k).trans q,rfl⟩,λj j h=>⟨h,rfl⟩⟩
theorem iW(ha:z.A.ad i=some a)(hb:z.A.ad j=some b)(hi:i∉S)(hj:j∉S)(hq:Q (.bool (decide (i=j))) z.P):Calls (m+2) 281 [.ref a,.ref b] z.P X Q:=by refine NH (z.at_ ha hi) rfl rfl rfl (z.at_ hb hj) rfl rfl rfl ?_;rw[show decide (z.A.num i=z.A.num j)=decide (i=j) from decide_eq_decide.mpr ⟨z.K.inj i j a b ha hb,λq=>aj _ q⟩];exact hq
theorem Vd{A:k9}{i:Nat}{a:Ad}(h:z.A.ad i=some a)(hs:i∉S):isNone (z.A.rf (gU i))=(gU i).isNone:=by
 cases q:gU i with
 | none=>rfl
 | some j=>obtain⟨b,e⟩:=z.K.ref i a h hs j (yQ (mem_some q));unfold k9.rf;rw[jv,e];rfl
theorem lX(ha:z.A.ad i=some a)(hs:i∉S)(hq:Q (.bool (!(gU i).isNone)) z.P):Calls (m+1) 225 [.ref a] z.P X Q:=aB 7 rfl rfl rfl (aG (z.at_ ha hs) rfl rfl (yZ _) ⟨jK _,by rw[Vd (A:=z.A) z ha hs];exact hq⟩)
theorem iV(hq:Q (.int (z.n.N+1) 0) (z.gZ (z.n.N+1) z.n.V z.n.cv (g5 (eu _)) (eu _)).P):Calls (m+1) 836 [.ref w.W] z.P X Q:=aB 68 rfl rfl rfl (aG z.K.W rfl rfl rfl (bQ z.K.W rfl (qB w z.n) (aG (aA ..) rfl rfl rfl hq)))
theorem fO(hq:Q .none (z.gZ z.n.N (z.n.V+1) z.n.cv (eu _) (g5 (eu _))).P):Calls (m+1) 530 [.ref w.W] z.P X Q:=aB 33 rfl rfl rfl (aG z.K.W rfl rfl rfl (bQ z.K.W rfl (qB w z.n) hq))
end
theorem rU{Ph:PH}{a:Ad}{t:Nat × Nat}{vs:List Va}(h:Ph a=some (.list t vs)):(match Ph a with
 | some (.list ..)=>True
 | _=>False):=by rw[h];trivial
theorem mu{Ph:PH}{a:Ad}{t:Nat × Nat}{kvs:List (Str × Va)}(h:Ph a=some (.dict t kvs)):(match Ph a with
 | some (.dict ..)=>True
 | _=>False):=by rw[h];trivial
def Pu(P P':PH):Prop:=∀ c o,P c=some o->P' c=some o
theorem Pu.refl(P:PH):Pu P P:=λq q h=>h
theorem Pu.trans{P P' P'':PH}(a:Pu P P')(b:Pu P' P''):Pu P P'':=λc o h=>b c o (a c o h)
theorem Pu.un{P P':PH}(a:Pu P P'){e:Ad}(h:P' e=none):P e=none:=by
 cases q:P e with
 | none=>rfl
 | some o=>rw[a e o q] at h;cases h
theorem Pu.new{P P':PH}(a:Pu P P'){e:Ad}(o:PO)(he:P' e=none):Pu P (upd P' e o):=λc o' h=>aI (a c o' h) he
theorem Pu.put{P P':PH}(a:Pu P P'){e:Ad}(o:PO)(he:P e=none):Pu P (upd P' e o):=λc o' h=>(aD λx=>by rw[x,he] at h;cases h).trans (a c o' h)
noncomputable def Z.pu{w:Wc}{C:Cont}{S:List Nat}(z:Z w C S)(P':PH)(p:Pu z.P P'):Z w C S:=⟨P',z.A,z.h,z.n,z.kp,z.K.keep λc o j j q j=>p c o q⟩
theorem Le.pu{w w':Wc}{C C':Cont}{S S':List Nat}{z:Z w C S}{z':Z w' C' S'}(a:Le z z')(P':PH)(p:Pu z'.P P'):Le z (z'.pu P' p):=a.trans ⟨λc o q j j=>⟨p c o q,rfl⟩,λj j h=>⟨h,rfl⟩⟩
theorem nn{i:Nat}:i∉([]:List Nat):=gk
theorem I8{α:Type}[DecidableEq α]:∀{l L:List α},l.Nodup->(∀ x∈l,x∈L)->l.length<=L.length:=by
 intro rr;induction rr with
 | nil=>exact @λq q q=>j5 _
 | cons x l ih=>intro L hn hs;have h1:=ih (dj hn).2 λy hy=>(List.mem_erase_of_ne λe=>(dj hn).1 (by subst e;exact hy)).mpr (hs y (.tail _ hy));rw[List.length_erase_of_mem (hs x (.head _))] at h1;have h2:=List.length_pos_of_mem (hs x (.head _));rw[i9];lia
section
variable{w:Wc}{C:Cont}{A:k9}{i j:Nat}
theorem jQ.Iv(W:jQ C)(i:Nat):(C.c i).mt.length<=6:=by
 have:=I8 (W.nd i).1 (L:=bH) λx hx=>(List.mem_map.mp hx).elim λq hq=>hq.2▸(W.nd i).2 q hq.1
 rwa [ef] at this
theorem jQ.Sn(W:jQ C)(i:Nat):(C.c i).ct.length<=6:=by
 have:=I8 (W.nc i).1 (L:=bH) λx hx=>(List.mem_map.mp hx).elim λq hq=>hq.2▸(W.nc i).2 q hq.1
 rwa [ef] at this
theorem cJ:∀ l∈NO,l.length<=2:=⋯
theorem C8:∀ l∈NO,∀ j∈l,(j<12\/14<j)/\vV j=[]/\gJ j=false/\par j=none:=⋯
theorem jQ.pl(W:jQ C)(h:j∈(C.c i).mx\/j∈(C.c i).ah):(C.c j).mx=[]/\(C.c j).ah=[]:=by have q:=h.elim (C8 _ (W.us i).1 j) (C8 _ (W.us i).2 j);exact⟨(W.base j q.1).2.1.trans q.2.1,(W.base j q.1).2.2⟩
theorem fR(l:List Nat):(A.dB l).length=l.length:=ef ..
theorem DR(l:List Nat):(A.dB l).reverse=A.dB l.reverse:=(jl ..).symm
theorem kW(l l':List Nat):A.dB l++A.dB l'=A.dB (l++l'):=(i8 ..).symm
theorem aQ{a:Ad}(h:A.ad i=some a):A.rf (some i)=.ref a:=by unfold k9.rf;rw[jv,h];rfl
theorem Ih{step:Va->Lv->PH->(NP)->Prop}{guard:PH->Prop}{k:NP}{Ph:PH}{loc:Op Va->Lv}(I:List Nat->Prop)
  (hg:guard Ph) (h0:I []->∀ v2,k (loc v2) Ph) (h1:∀ j x r v2 (T:NP),A.ad j=some x->I (j::r)->(I r->∀ v2,T (loc v2) Ph)->step (.ref x) (loc v2) Ph T):∀{l:List Nat} {v2:Op Va},(∀ j∈l,∃ b,A.ad j=some b)->I l->cL step guard (A.dB l) (loc v2) Ph k:=by
 intro rr;induction rr with
 | nil=>exact @λv2 q h=>h0 h v2
 | cons x r ih=>exact @λv2 e h=>(e x (.head _)).elim λb hb=>by show cL step guard (A.rf (some x)::A.dB r) (loc v2) Ph k;rw[aQ hb];exact h1 x b r v2 _ hb h λhi v2=>⟨hg,ih (λj hj=>e j (.tail _ hj)) hi⟩
end
section
variable{m:Nat}{X:XP}{Q:VQ}{w:Wc}{C:Cont}(z:Z w C []){i j:Nat}{a b:Ad}
theorem fT{t0:Ad}{t:Nat × Nat}{l:List Nat}(hl:z.P t0=some (.list t (z.A.dB l)))(hm:∀ x∈l,∃ b,z.A.ad x=some b)(ha:z.A.ad i=some a)(hb:l.length<big)(hq:Q (.bool (l.contains i)) z.P):
  Calls (m+3) 450 [.ref t0,.ref a] z.P X Q:=by
 refine aB 24 rfl rfl rfl (cO hl ((fR l).symm▸hb) (Ih (loc:=λv2=>[some (.ref t0),some (.ref a),v2,none]) (λl2=>l2.contains i=l.contains i) hl (λh v2=>?_) (λj x r v2 T hx h ih=>?_) (v2:=none) hm rfl))
 ·rw[<-h] at hq;exact hq
 ·refine iW z hx ha nn nn ?_
  by_cases e:j=i
  ·refine bt (au e) ?_
   rw[<-h,e,List.contains_cons,bg,Bool.true_or] at hq;exact hq
  ·refine bf (av e) (ih ?_ _)
   rw[<-h,List.contains_cons,beq_eq_false_iff_ne.mpr (gz e),Bool.false_or]
theorem lY(ha:z.A.ad i=some a)(hp:(C.c i).mx=[]/\(C.c i).ah=[]){P0:PH}(p:Pu z.P P0)(hq:∀ P' e,Pu P0 P'->P0 e=none->P' e=some (.list (0,0) [.ref a])->Q (.ref e) P'):
  Calls (m+1) 457 [.ref a] P0 X Q:=by refine aB 25 rfl rfl rfl ⟨bl,λe he=>?_⟩;have M:=z.K.mod i a ha nn;have ad:P0 (z.kp i).ad=some (.list (0,0) []):=p _ _ (by have q:=M.ad;rw[hp.2] at q;exact q);have xd:P0 (z.kp i).xd=some (.list (0,0) []):=p _ _ (by have q:=M.xd;rw[hp.1] at q;exact q);refine aG (aI (p _ _ M.at_) he) rfl rfl rfl (yL (aI ad he) bl λe2 he2=>cO (aA ..) bl ?_);have h2:=aI (o:=.list (0,0) []) (aA P0 e (.list (0,0) [])) he2;have p3:Pu P0 (upd (upd (upd P0 e (.list (0,0) [])) e2 (.list (0,0) [])) e (.list (0,0) [.ref a])):=(((Pu.refl P0).new _ he).new _ he2).put _ he;refine⟨rU h2,BG h2 bl (aG (p3 _ _ (p _ _ M.at_)) rfl rfl rfl (yL (p3 _ _ xd) bl λe4 he4=>cO (aA ..) bl ?_))⟩;exact hq _ e (p3.new _ he4) he (aI (aA ..) he4)
end
section
section
variable{m:Nat}{X:XP}{Q:VQ}{w:Wc}{C:Cont}{i j:Nat}{a b:Ad}
structure Gw(P0 P':PH)(A:k9)(e c2:Ad)(o2:PO)(acc:List Nat):Prop where
 pu:Pu P0 P'
 at_:P' e=some (.list (0,0) (A.dB acc))
 fr:P0 e=none
 c:P' c2=some o2
 ne:c2≠e
theorem A5(z0:Z w C []){e c2:Ad}{o2:PO}{v0 v3:Op Va}{cs:List Bool}{R:VQ}{N:NP}(hcs:cs.getD 2 false=false):
  ∀(l:List Nat) (P':PH) (acc:List Nat) (v2:Op Va),Gw z0.P P' z0.A e c2 o2 acc->(∀ j∈l,(∃ b,z0.A.ad j=some b)/\(C.c j).mx=[]/\(C.c j).ah=[])->acc.length+l.length<5000->(∀ P' v2,Gw z0.P P' z0.A e c2 o2 (acc++l)->N [v0,some (.ref e),v2,v3] P')->cL (λv l P' k=>wpS (m+1) cs (.seq (.expr (.bm .extend (.loc 1) (.cons (.call 457 (.cons (.loc 2) .nil)) .nil))) .skip) (l.set 2 (some v)) (jV cs 2 P') X k R) (λP'=>P' c2=some o2) (z0.A.dB l) [v0,some (.ref e),v2,v3] P' N:=by
 intro rr;induction rr with
 | nil=>exactλP' acc v2 G u u h=>h P' v2 (by rw[jk];exact G)
 | cons j l ih=>
  intro P' acc v2 G hp hl h;obtain⟨⟨b,hb⟩,pl⟩:=hp j (.head _);show cL _ _ (z0.A.rf (some j)::z0.A.dB l) _ _ _;rw[aQ hb];show wpS _ _ _ _ (if cs.getD 2 false=true then bJ P' else P') _ _ _;rw[hcs];refine⟨rU G.at_,lY z0 hb pl G.pu λP2 f p2 (hf:P' f=none) h'=>?_⟩;rw[i9] at hl;have hl':(z0.A.dB acc).length<big:=by rw[fR];unfold big;lia
  refine Tg (p2 _ _ G.at_) h' ⟨λq=>(by rw[<-q,G.at_] at hf;cases hf),hl',bl⟩ ?_;have c':=(aD (P:=P2) (o:=.list (0,0) (z0.A.dB acc++[.ref b])) G.ne).trans (p2 _ _ G.c);refine⟨c',ih _ (acc++[j]) _ ⟨(G.pu.trans p2).put _ G.fr,(aA ..).trans ?_,G.fr,c',G.ne⟩ (λy hy=>hp y (.tail _ hy)) (by rw[gu,jg];lia) λz2 v2 G2=>h z2 v2 ?_⟩
  ·rw[<-kW,<-aQ hb];rfl
  ·rwa [i0] at G2
theorem uB(z:Z w C [])(ha:z.A.ad i=some a){l:List Nat}(hl:l=(C.c i).mx\/l=(C.c i).ah):∀ j∈l,(∃ b,z.A.ad j=some b)/\(C.c j).mx=[]/\(C.c j).ah=[]:=λj hj=>by
 rcases hl with rfl|rfl
 ·exact⟨z.K.ref i a ha nn j (u7 hj),z.K.wf.pl (.inl hj)⟩
 ·exact⟨z.K.ref i a ha nn j (u6 hj),z.K.wf.pl (.inr hj)⟩
theorem wI{l:List Nat}{A:k9}(h:l.length<=2):(A.dB l).length<big:=k6 (fu (gi (fR l)) h) ()
theorem Pf{l:List Nat}(h:l.length<=2):l.reverse.length<=2:=fu (gi gh) h
theorem BN(z:Z w C [])(ha:z.A.ad i=some a){P0:PH}(p:Pu z.P P0)(hq:∀ P' e,Pu P0 P'->P0 e=none->P' e=some (.list (0,0) (z.A.dB (mG C i)))->Q (.ref e) P'):
  Calls (m+2) 457 [.ref a] P0 X Q:=by
 refine aB 25 rfl rfl rfl ⟨bl,λe he=>?_⟩;have M:=z.K.mod i a ha nn;have l1:=cJ _ (z.K.wf.us i).2;have l2:=cJ _ (z.K.wf.us i).1;let y:=z.pu P0 p;refine aG (aI (p _ _ M.at_) he) rfl rfl rfl (yL (aI (p _ _ M.ad) he) (wI l1) λe2 he2=>?_);have ne:e2≠e:=λq=>by rw[q] at he2;cases (aA P0 e (.list (0,0) [])).symm.trans he2
 have e1:(z.A.dB (C.c i).ah).reverse=z.A.dB (C.c i).ah.reverse:=DR _;refine cO (aA ..) (by rw[e1];exact wI (Pf l1)) ?_;rw[e1];refine A5 y rfl _ _ [] none ⟨((Pu.refl P0).new _ he).new _ he2,aI (aA ..) he2,he,aA ..,ne⟩ (λj hj=>uB z ha (.inr rfl) j (d8 hj)) (by rw[gh,j3];lia) λP3 v2 G3=>?_;rw[kq] at G3;have p4:Pu P0 (upd P3 e (.list (0,0) (z.A.dB (C.c i).ah.reverse++[.ref a]))):=G3.pu.put _ he;refine⟨rU G3.at_,BG G3.at_ (wI (Pf l1)) (aG (p4 _ _ (p _ _ M.at_)) rfl rfl rfl (yL (p4 _ _ (p _ _ M.xd)) (wI l2) λf hf=>?_))⟩;have nf:f≠e:=λq=>by rw[q] at hf;cases (aA P3 e (.list (0,0) (z.A.dB (C.c i).ah.reverse++[.ref a]))).symm.trans hf
 have e2:(z.A.dB (C.c i).mx).reverse=z.A.dB (C.c i).mx.reverse:=DR _;refine cO (aA ..) (by rw[e2];exact wI (Pf l2)) ?_;rw[e2];have l3:((C.c i).ah.reverse++[i]).length<=3:=by rw[gu,gh,jg];lia
 refine A5 y rfl _ _ ((C.c i).ah.reverse++[i]) v2 ⟨p4.new _ hf,(aI (aA ..) hf).trans ?_,he,aA ..,nf⟩ (λj hj=>uB z ha (.inl rfl) j (d8 hj)) (by rw[gh];lia) λP6 v3 G6=>hq P6 e G6.pu he (G6.at_.trans ?_)
 ·rw[<-kW,<-aQ ha];rfl
 ·rw[i0];rfl
end
end
section
variable{w:Wc}{C C':Cont}{A:k9}{h h':eO}{n n':Nm}{kp:Nat->Kp}{i:Nat}{a:Ad}{k':Kp}
theorem Core.chg(K:Core w C [] P A h n kp)(ha:A.ad i=some a)
  (hP:∀ c o t,h c=some t->t.2≠i->t≠(5,50)->P c=some o->o.bR=false->P' c=some o/\h' c=some t) (hW:P' w.W=some (.inst 1055 (sN w n'))) (hWh:h' w.W=some (5,50))
  (hs:∀ c t,h' c=some t->∃ o,P' c=some o/\o.bR=false) (hc:∀ j,j≠i->C'.c j=C.c j/\C'.lk j=C.lk j) (hex:C'.ex=C.ex) (wf:jQ C') (hV:n.V<=n'.V) (hN:n.N<=n'.N) (hmd:n'.md=n.md)
  (hL:∀ j,j≠i->n'.V=n.V->aX C' j=aX C j) (hr:∀ j∈refsOf C' i,∃ b,A.ad j=some b) (hlk:∀ i,C'.lk i=true->∃ a,A.ad i=some a) (M:D5 P' A C' h' n'.V i a k'):Core w C' [] P' A h' n' (λj=>if j=i then k' else kp j):=
 have lt:=(K.le i a ha).2;have n50:∀{t:Tag},t.2=50->t.2≠i:=λe=>by rw[e];intro q;rw[<-q] at lt;exact absurd lt ()
 have n99:∀{t:Tag},t.2=99->t.2≠i:=λe=>by rw[e];intro q;rw[<-q] at lt;exact absurd lt ()
 have d:=hP _ _ _ K.om (n50 rfl) () K.gK rfl;have d1:=hP _ _ _ K.on (n50 rfl) () K.nd rfl;have d2:=hP _ _ _ K.op (n50 rfl) () K.pd rfl
 {W:=hW,gK:=hmd▸d.1,nd:=d1.1,pd:=d2.1,vf:=hmd▸K.vf,wJ:=hmd▸K.wJ,ve:=hmd▸K.ve
  mod:=λj b e s=>by
   by_cases q:j=i
   ·subst q
    cases ha.symm.trans e;rw[ai rfl];exact M
   ·rw[aa q]
    refine(K.mod j b e s).move e (K.ref j b e s) (λc o t x y p l=>hP c o t x ?_ ?_ p l) (λu u x=>⟨x,rfl⟩) (hc j q).2 (hc j q).1 hV (hL j q)
    ·rcases y with y|y
     ·rw[y];exact q
     ·exact n99 y
    ·intro z;subst z
     rcases y with y|y
     ·exact absurd (K.le j b e).2 (by rw[<-y];decide)
     ·cases y
  ref:=λj b e s=>by
   by_cases q:j=i
   ·subst q;exact hr
   ·have:=K.ref j b e s
    unfold refsOf at this ⊢
    rwa [(hc j q).1,(hc j q).2]
  inj:=K.inj,le:=λj b e=>⟨jt (K.le j b e).1 hN,(K.le j b e).2⟩,lk:=hlk,ex:=λj q=>hex▸K.ex j q,wf:=wf,oW:=hWh,om:=d.2,on:=d1.2,op:=d2.2
  ry:=hs }
theorem stand{o:PO}{e c:Ad}(hl:o.bR=false)(q:∃ o,P c=some o/\o.bR=false):∃ o',upd P e o c=some o'/\o'.bR=false:=by
 by_cases x:c=e
 ·exact⟨o,by rw[x];exact aA ..,hl⟩
 ·exact q.imp λo' y=>⟨(aD x).trans y.1,y.2⟩
noncomputable def eN(h:eO)(e:Ad)(t:Tag):eO:=λc=>if c=e then some t else h c
theorem bX(h:eO)(e:Ad)(t:Tag):eN h e t e=some t:=ai rfl
theorem aM{h:eO}{e c:Ad}{t:Tag}(q:c≠e):eN h e t c=h c:=aa q
theorem aY{h:eO}{e c:Ad}{t t':Tag}(he:h e=none)(q:h c=some t'):eN h e t c=some t':=(aM λx=>by rw[x,he] at q;cases q).trans q
end
section
variable{w:Wc}{C:Cont}{i:Nat}{a kt kl:Ad}
noncomputable def Z.keep(z:Z w C [])(ha:z.A.ad i=some a)(ht:z.P kt=some (.tup [.int z.n.V 0,.ref kl]))(hl:z.P kl=some (.list (0,0) (z.A.dB (aX C i))))(ut:z.h kt=none)(ul:z.h kl=none)(hx:∀ j∈aX C i,∃ b,z.A.ad j=some b):Z w C [] where
 P:=upd z.P a (.inst 228 (lI z.A (C.lk i) i { z.kp i with kp:=some (kt,kl,z.n.V,aX C i) }))
 A:=z.A
 h:=eN (eN z.h kt (7,99)) kl (8,99)
 n:=z.n
 kp:=λj=>if j=i then { z.kp i with kp:=some (kt,kl,z.n.V,aX C i) } else z.kp j
 K:=
  have K:=z.K;have M:=K.mod i a ha nn;have nt:kl≠kt:=λq=>by rw[q,ht] at hl;cases hl
  have ul':eN z.h kt (7,99) kl=none:=(aM nt).trans ul;have g:∀{c t},z.h c=some t->eN (eN z.h kt (7,99)) kl (8,99) c=some t:=λq=>aY ul' (aY ut q);have na:∀{c t o},z.h c=some t->t≠(0,i)->z.P c=some o->upd z.P a (.inst 228 (lI z.A (C.lk i) i { z.kp i with kp:=some (kt,kl,z.n.V,aX C i) })) c=some o:=λq r p=>(aD λx=>r (by subst x;exact kr (q.symm.trans M.oa))).trans p;have nu:∀{c o},z.h c=none->z.P c=some o->upd z.P a (.inst 228 (lI z.A (C.lk i) i { z.kp i with kp:=some (kt,kl,z.n.V,aX C i) })) c=some o:=λq p=>(aD λx=>by rw[x,M.oa] at q;cases q).trans p
  K.chg ha (λc o t q r s p l=>⟨na q (λe=>r (by rw[e])) p,g q⟩) (na K.oW eW K.W) (g K.oW)
   (λc t q=>stand rfl (by
    by_cases x:c=kl
    ·exact⟨_,x▸hl,rfl⟩
    ·rw[aM x] at q
     by_cases y:c=kt
     ·exact⟨_,y▸ht,rfl⟩
     ·rw[aM y] at q;exact K.ry c t q))
   (λu u=>⟨rfl,rfl⟩) rfl K.wf (eu _) (eu _) rfl (λu u u=>rfl) (K.ref i a ha nn) K.lk
   {at_:=aA ..,fd:=na M.of eW M.fd,md:=na M.om eW M.md,cd:=na M.oc eW M.cd,xd:=na M.ox eW M.xd,ad:=na M.od eW M.ad
    ent:=λq hq=>⟨na (M.ent q hq).2 eW (M.ent q hq).1,g (M.ent q hq).2⟩
    kp:=λkt' kl' v ln e=>by cases e;exact⟨⟨nu ut ht,nu ul hl,(aM (gz nt)).trans (bX ..),bX ..⟩,eu _,λu=>rfl,hx⟩
    oa:=g M.oa,of:=g M.of,om:=g M.om,oc:=g M.oc,ox:=g M.ox,od:=g M.od }
theorem Le.keep{w':Wc}{C':Cont}{S':List Nat}{z0:Z w' C' S'}{z:Z w C []}(l:Le z0 z)(ha:z.A.ad i=some a)(ht:z.P kt=some (.tup [.int z.n.V 0,.ref kl]))(hl:z.P kl=some (.list (0,0) (z.A.dB (aX C i))))(ut:z.h kt=none)(ul:z.h kl=none)(hx:∀ j∈aX C i,∃ b,z.A.ad j=some b)
  (f1:Nw z0 kt) (f2:Nw z0 kl):Le z0 (z.keep ha ht hl ut ul hx):=⟨λc o q r k=>
 have x:=l.fr c o q r k
 have na:c≠a:=λy=>by
  subst y;have:=x.2.symm.trans (z.K.mod i c ha nn).oa;rcases k with k|⟨t,k⟩
  ·rw[k] at this;cases this
  ·rw[k] at this;cases this
   exact absurd (z.K.le 99 c ha).2 ()
 ⟨(aD na).trans x.1,((aM λy=>by subst y;exact f2 o q r k).trans (aM λy=>by subst y;exact f1 o q r k)).trans x.2⟩,l.ad⟩
end
variable{Ph:PH}{a:Ad}{vs:List Va}{t:Nat × Nat}
theorem EN{R1:Nat × Nat->List Va->Prop}{R2:List Va->Prop}(h:Ph a=some (.list t vs))(hl:vs.length<big)(hq:R1 t vs):(match rd Ph a with
 | some (.list t vs)=>vs.length<big/\R1 t vs
 | some (.tup vs)=>vs.length<big/\R2 vs
 | _=>False):=by rw[dF h];exact⟨hl,hq⟩
theorem T3{R:Int->Prop}{i:Int}(h:Ph a=some (.list t vs))(hl:vs.length<big)(hs:zo vs=some i)(hq:R i):Cn (Ph a) λq vs=>vs.length<big/\Bv (zo vs) R:=by rw[h];refine⟨hl,?_⟩;rw[hs];exact hq
theorem JD:∀ l:List Nat,zo (l.map λq=>.int 1 0)=some (l.length:Int):=by
 intro rr;induction rr with
 | nil=>exact rfl
 | cons _ l ih=>show(zo (l.map λq=>.int 1 0)).map (1+·)=_;rw[ih,i9,i7,Int.natCast_add,Int.add_comm];rfl
theorem Q6{R:Nat × Nat->List Va->Prop}(h:Ph a=some (.list t vs))(hl:vs.length<big)(hq:R t vs):(match Ph a with
 | some (.list t vs)=>vs.length<big/\R t vs
 | _=>False):=by rw[h];exact⟨hl,hq⟩
section
variable{m:Nat}{X:XP}{Q:VQ}{w:Wc}{C:Cont}{i j:Nat}{b:Ad}
theorem G1(z:Z w C []){c2:Ad}{o2:PO}{loc:Lv}{k:List Va->PH->Prop}:∀(l:List Nat) (P':PH) (acc:List Va),Pu z.P P'->P' c2=some o2->(∀ j∈l,(∃ b,z.A.ad j=some b)/\(C.c j).mx=[]/\(C.c j).ah=[])->(∀ P',Pu z.P P'->k (acc++l.map λq=>.int 1 0) P')->xH (λv P' r=>bE (m+1) (.con (.bool true)) ((lG [none,none,none,none] loc).set 1 (some v)) P' oA λb P'=>aV b (bE (m+1) (.prim .len (.cons (.call 457 (.cons (.loc 1) .nil)) .nil)) ((lG [none,none,none,none] loc).set 1 (some v)) P' oA λv P'=>r (some v) P') (r none P')) (λP'=>iC P'->rd P' c2=some o2) (z.A.dB l) acc P' k:=by
 intro rr;induction rr with
 | nil=>exactλP' acc p q q h=>by have:=h P' p;rwa [List.map_nil,jk] at this
 | cons j l ih=>intro P' acc p hc hp h;obtain⟨⟨b,hb⟩,pl⟩:=hp j (.head _);show xH _ _ (z.A.rf (some j)::z.A.dB l) _ _ _;rw[aQ hb];refine lY z hb pl p λP2 f p2 hf h'=>Ib h' bl ⟨λq=>dF (p2 _ _ hc),ih P2 (acc++[.int 1 0]) (p.trans p2) (p2 _ _ hc) (λy hy=>hp y (.tail _ hy)) λP3 p3=>?_⟩;rw[i0];exact h P3 p3
theorem vW(z:Z w C [])(ha:z.A.ad i=some a){P0:PH}(p:Pu z.P P0)(hq:∀ P',Pu P0 P'->Q (.int ((C.c i).ah.length:Int) 0) P'):Calls (m+2) 462 [.ref a] P0 X Q:=by have M:=z.K.mod i a ha nn;have l1:=cJ _ (z.K.wf.us i).2;refine aB 26 rfl rfl rfl (aG (p _ _ M.at_) rfl rfl rfl λq=>(EN (p _ _ M.ad) (wI l1) (G1 (z.pu P0 p) _ P0 [] (Pu.refl _) (p _ _ M.ad) (uB z ha (.inr rfl)) λP2 p2 e he=>?_)));exact T3 (aA ..) (k6 (fu (gi (ef ..)) l1) ()) (JD _) (hq _ (p2.new _ he))
end
theorem fS(i:Nat){n:Nat}{f:Ad}{k:Nat}{ext:Lv}{cs:List Bool}{u:U}{vs:List Va}{Ph:PH}{X:XP}{Q:VQ}(hr:tab[i]?=some ⟨f,k,ext,cs,u⟩)(hl:vs.length=k)(nc:cs.any id=true)
  (h:wpS n cs u (vs.map some++ext) Ph (λe P'=>X e (bJ P')) (λq P'=>Q .none (bJ P')) (λv P'=>Q v (bJ P'))):Calls (n+1) f vs Ph X Q:=by refine xr (r:=⟨f,k,ext,cs,u⟩) (g4 hr) hl ?_;simp only[nc];exact h
noncomputable def C2:U:=(.seq (.bF (.and (.not (.call 450 (.cons (.loc 3) (.cons (.loc 6) .nil)))) (.or (.prim .lt (.cons (.loc 5) (.cons (.loc 4) .nil))) (.not (.call 450 (.cons (.loc 2) (.cons (.loc 6) .nil)))))) (.seq (.expr (.bm .append (.loc 3) (.cons (.loc 6) .nil))) .skip) .skip) .skip)
section
variable{m:Nat}{X:XP}{Q:VQ}{w:Wc}{C:Cont}{i j:Nat}{b:Ad}
noncomputable abbrev Er:List Bool:=[false,false,false,true,false,false,false,false,false,false,false,false]
noncomputable abbrev Cd(v0 v1:Op Va)(b e:Ad)(cn:Int)(v5 v6:Op Va):Lv:=(v0::v1::some (.ref b)::some (.ref e)::some (.int cn 0)::v5::v6::nN 5)
theorem EV(z:Z w C []){e b1 c2:Ad}{o2:PO}{tb:Nat × Nat}{behind own:List Nat}{cn:Nat}{v0 v1:Op Va}{R:VQ}{N:NP}(he:z.h e=none)(hb:z.P b1=some (.list tb (z.A.dB behind)))(hbe:b1≠e)(hc:z.P c2=some o2)(hce:c2≠e)
  (ho:∀ x∈own,∃ b,z.A.ad x=some b) (hbx:∀ x∈behind,∃ b,z.A.ad x=some b) (hl:behind.length<big):
  ∀(r:List Nat) (q:Nat) (found:List Nat) (P':PH) (v5 v6:Op Va),own.drop q=r->(∀ c,c≠e->P' c=z.P c)->P' e=some (.list (0,0) (z.A.dB found))->found.length+r.length<big->(∀ x∈found,∃ b,z.A.ad x=some b)->(∀ P' v5 v6,(∀ c,c≠e->P' c=z.P c)->P' e=some (.list (0,0) (z.A.dB (lU behind (cn-q) r found)))->(∀ x∈lU behind (cn-q) r found,∃ b,z.A.ad x=some b)->(lU behind (cn-q) r found).length<big->N (Cd v0 v1 b1 e cn v5 v6) P')->cL (λv l P' k=>match v with
   | .ref q=>wpS (m+3) Er C2 ((l.set 5 (some (.int q 0))).set 6 (some (((z.A.dB own)[q]?).getD .none))) (jV Er 6 (jV Er 5 P')) X k R
   | _=>False) (λP'=>P' c2=some o2) ((List.range' q r.length).map .ref) (Cd v0 v1 b1 e cn v5 v6) P' N:=by
 intro rr;induction rr with
 | nil=>exactλq found P' v5 v6 j al hf hn hx h=>h P' v5 v6 al hf hx hn
 | cons x r ih=>
  intro q found P' v5 v6 hd al hf hn hx h;have gx:own[q]?=some x:=by rw[<-List.head?_drop,hd];rfl
  obtain⟨bx,hbx'⟩:=ho x (g4 gx);have gv:((z.A.dB own)[q]?).getD .none=.ref bx:=by unfold k9.dB;rw[gj,gx];exact aQ hbx'
  show wpS (m+3) Er C2 (Cd v0 v1 b1 e cn (some (.int q 0)) (some (((z.A.dB own)[q]?).getD .none))) P' X _ R;rw[gv];rw[i9] at hn;have hd':own.drop (q+1)=r:=by rw[<-List.tail_drop,hd];rfl
  have hq:cn-(q+1)=cn-q-1:=Nat.sub_add_eq ..;let y:=z.alt he P' al
  have key:∀(P2:PH) (found':List Nat),(∀ c,c≠e->P2 c=z.P c)->P2 e=some (.list (0,0) (z.A.dB found'))->found'.length<=found.length+1->(∀ x∈found',∃ b,z.A.ad x=some b)->lU behind (cn-q) (x::r) found=lU behind (cn-q-1) r found'->P2 c2=some o2/\cL (λv l P' k=>match v with
     | .ref q=>wpS (m+3) Er C2 ((l.set 5 (some (.int q 0))).set 6 (some (((z.A.dB own)[q]?).getD .none))) (jV Er 6 (jV Er 5 P')) X k R
     | _=>False) (λP'=>P' c2=some o2) ((List.range' (q+1) r.length).map .ref) (Cd v0 v1 b1 e cn (some (.int q 0)) (some (.ref bx))) P2 N:=λP2 found' al2 hf2 hl2 hx2 ha=>⟨(al2 c2 hce).trans hc,ih (q+1) found' P2 _ _ hd' al2 hf2 (by lia) hx2 (by rw[hq,<-ha];exact h)⟩
  have app:found.contains x=false->(decide (0<cn-q)||!behind.contains x)=true->wpS (m+3) Er (.seq (.expr (.bm .append (.loc 3) (.cons (.loc 6) .nil))) .skip) (Cd v0 v1 b1 e cn (some (.int q 0)) (some (.ref bx))) P' X (λl P2=>P2 c2=some o2/\cL (λv l P' k=>match v with
     | .ref q=>wpS (m+3) Er C2 ((l.set 5 (some (.int q 0))).set 6 (some (((z.A.dB own)[q]?).getD .none))) (jV Er 6 (jV Er 5 P')) X k R
     | _=>False) (λP'=>P' c2=some o2) ((List.range' (q+1) r.length).map .ref) l P2 N) R:=λh1 h2=>by
   refine⟨rU hf,BG hf (by rw[fR];lia) (key _ (found++[x]) (λc hc=>(aD hc).trans (al c hc)) ((aA ..).trans ?_) (by rw[gu];exact f7 _) (λy hy=>?_) ?_)⟩
   ·rw[<-kW,<-aQ hbx'];rfl
   ·rcases cy hy with hy|hy
    ·exact hx y hy
    ·rw[cu hy];exact⟨bx,hbx'⟩
   ·show lU behind (cn-q-1) r (if (!found.contains x&&(decide (0<cn-q)||!behind.contains x))=true then found++[x] else found)=_
    rw[h1,h2];rfl
  refine fT y hf hx hbx' (by lia) ?_;cases h1:found.contains x with
  | true=>refine bt rfl (bf rfl (key _ found al hf (ki _) hx ?_));show lU behind (cn-q-1) r (if (!found.contains x&&(decide (0<cn-q)||!behind.contains x))=true then found++[x] else found)=_;rw[h1];rfl
  | false=>
   refine bf rfl (bt rfl ?_);by_cases hlt:(q:Int)<(cn:Int)
   ·refine bt (au hlt) (bt rfl (app h1 ?_))
    rw[au (by lia:0<cn-q)];rfl
   ·refine bf (av hlt) (fT y ((al b1 hbe).trans hb) hbx hbx' hl ?_)
    cases h2:behind.contains x with
    | true=>refine bt rfl (bf rfl (key _ found al hf (ki _) hx ?_));show lU behind (cn-q-1) r (if (!found.contains x&&(decide (0<cn-q)||!behind.contains x))=true then found++[x] else found)=_;rw[h1,h2,av (by lia:¬ 0<cn-q)];rfl
    | false=>refine bf rfl (bt rfl (app h1 ?_));rw[h2];exact Bool.or_true _
theorem Ey(z:Z w C []){e c2:Ad}{o2:PO}{te:Nat × Nat}{found:List Nat}{v0 v1 v5 v6:Op Va}{b1:Ad}{cn:Int}{k:List Va->PH->Prop}(hf:z.P e=some (.list te (z.A.dB found)))(hx:∀ x∈found,∃ b,z.A.ad x=some b)(hl:found.length<big)(hc:z.P c2=some o2):
  ∀(l acc:List Nat),(∀ j∈l,∃ b,z.A.ad j=some b)->k (z.A.dB (acc++l.filter λx=>!found.contains x)) z.P->xH (λv P' r=>bE (m+3) (.not (.call 450 (.cons (.loc 3) (.cons (.loc 1) .nil)))) ((lG [none,none,none,some 3] (Cd v0 v1 b1 e cn v5 v6)).set 1 (some v)) P' oA λb P'=>aV b (bE (m+3) (.loc 1) ((lG [none,none,none,some 3] (Cd v0 v1 b1 e cn v5 v6)).set 1 (some v)) P' oA λv P'=>r (some v) P') (r none P')) (λP'=>iC P'->rd P' c2=some o2) (z.A.dB l) (z.A.dB acc) z.P k:=by
 intro rr;induction rr with
 | nil=>exactλacc u h=>by rw[List.filter_nil,jk] at h;exact h
 | cons j l ih=>
  intro acc hp h;obtain⟨b,hb⟩:=hp j (.head _);show xH _ _ (z.A.rf (some j)::z.A.dB l) _ _ _;rw[aQ hb];refine fT z hf hx hb hl ?_;cases q:found.contains j with
  | true=>
   refine bt rfl (bf rfl ⟨λu=>dF hc,ih acc (λy hy=>hp y (.tail _ hy)) ?_⟩)
   rwa [List.filter_cons_of_neg (by rw[q];decide)] at h
  | false=>
   refine bf rfl (bt rfl ⟨λu=>dF hc,?_⟩);show xH _ _ _ (z.A.dB acc++[.ref b]) _ _;rw[show z.A.dB acc++[.ref b]=z.A.dB (acc++[j]) by rw[<-kW,<-aQ hb];rfl];refine ih (acc++[j]) (λy hy=>hp y (.tail _ hy)) ?_
   rwa [List.filter_cons_of_pos (by rw[q];decide),List.append_cons] at h
end
theorem Gs(behind:List Nat):∀(r:List Nat) (c:Nat) (found:List Nat),(lU behind c r found).length<=found.length+r.length:=by
 intro rr;induction rr with
 | nil=>exactλq q=>f7 _
 | cons x r ih=>
  intro c found;refine fu (ih (c-1) _) ?_;rw[i9];split
  ·rw[gu,jg];lia
  ·lia
section
variable{m:Nat}{X:XP}{Q:VQ}{w:Wc}{C:Cont}{i j:Nat}{b:Ad}
theorem DM(W:jQ C)(i:Nat):(mG C i).length<=5:=by have l1:=cJ _ (W.us i).2;have l2:=cJ _ (W.us i).1;unfold mG;rw[gu,i9,gh,gh];lia
theorem Ik(W:jQ C)(i:Nat)(behind:List Nat):(eG C behind i).length<=behind.length+5:=by have h1:=Gs behind (mG C i) (C.c i).ah.length [];have h2:=DM W i;have h3:=jh (λx=>!(lU behind (C.c i).ah.length (mG C i) []).contains x) behind;unfold eG;rw[gu];rw[j3] at h1;lia
theorem kD(W:jQ C):∀(k i:Nat),(jJ C k i).length<=5*k:=by
 intro rr;induction rr with
 | zero=>exactλq=>j5 _
 | succ k ih=>
  intro i;refine fu (Ik W i _) ?_;cases par i with
  | none=>dsimp only;rw[j3];lia
  | some p=>have:=ih p;dsimp only;lia
theorem Pb(z:Z w C [])(ha:z.A.ad i=some a):∀ x∈mG C i,∃ b,z.A.ad x=some b:=λx hx=>by
 rcases cy hx with h|h
 ·exact(uB z ha (.inr rfl) x (d8 h)).1
 ·rcases ku h with h|h
  ·exact⟨a,by rw[h];exact ha⟩
  ·exact(uB z ha (.inl rfl) x (d8 h)).1
theorem EW(z:Z w C [])(ha:z.A.ad i=some a){v0:Op Va}{b1:Ad}{tb:Nat × Nat}{behind:List Nat}{N:NP}(hb:z.P b1=some (.list tb (z.A.dB behind)))(hbx:∀ x∈behind,∃ b,z.A.ad x=some b)(hl:behind.length<1000)
  (hq:∀(z':Z w C []) e,Le z z'->z'.A=z.A->z'.n=z.n->Nw z e->z'.h e=none->z'.P e=some (.list (0,0) (z.A.dB (eG C behind i)))->(∀ x∈eG C behind i,∃ b,z.A.ad x=some b)->Q (.ref e) z'.P):
  wpS (m+3) Er (match mV with|.seq _ u=>u|_=>.skip) (v0::some (.ref a)::some (.ref b1)::nN 9) z.P X N (λv P'=>Q v (bJ P')):=by
 refine⟨bl,λe he=>vW z ha ((Pu.refl z.P).new _ he) λP2 p2=>⟨bl,λt ht=>nR (aA ..) ⟨rfl,?_⟩⟩⟩;have p3:Pu (upd z.P e (.list (0,0) [])) (upd P2 t (.tup [.ref e,.int ((C.c i).ah.length:Int) 0])):=p2.new _ ht;let z5:=(z.pu _ (((Pu.refl z.P).new _ he).trans p3)).drop;have l5:Le z z5:=((Le.refl z).pu _ _).drop;have he5:z5.P e=some (.list (0,0) []):=cR (p3 _ _ (aA ..)) rfl;have hb5:z5.P b1=some (.list tb (z.A.dB behind)):=cR (p3 _ _ (aI hb he)) rfl;have hu:z5.h e=none:=z.un he;refine BN z5 ha (Pu.refl _) λP6 f p6 hf h6=>?_;let y:=z5.pu P6 p6;have hbe:b1≠e:=λq=>by rw[q,he] at hb;cases hb
 have hfe:f≠e:=λq=>by rw[q] at hf;cases hf.symm.trans he5
 have ol:=DM z.K.wf i;refine Q6 h6 (k6 (fu (gi (fR _)) ol) ()) ?_;rw[List.range_eq_range',fR];refine EV y hu (p6 _ _ hb5) hbe h6 hfe (Pb z ha) hbx (gy hl ()) (mG C i) 0 [] P6 none none rfl (λj j=>rfl) (p6 _ _ he5) (k6 (fu (gi (Nat.zero_add _)) ol) ()) (λx hx=>absurd hx gk) λP7 v5 v6 al h7 hx7 hl7=>?_;let y7:=y.alt hu P7 al
 refineλj=>EN ((al b1 hbe).trans (p6 _ _ hb5)) (k6 (gi (fR _)) (gy hl ())) (Ey y7 h7 hx7 hl7 ((al b1 hbe).trans (p6 _ _ hb5)) behind [] hbx λg hg=>?_)
 rw[kq];have fl:=jh (λx=>!(lU behind ((C.c i).ah.length-0) (mG C i) []).contains x) behind;refine Gy (aI h7 hg) (aA ..) ⟨by rw[fR];exact hl7,k6 (fu (gi (fR _)) fl) (gy hl ())⟩ λr hr=>?_;have l7:Le z y7:=(l5.pu P6 p6).alt (Nw.none z he) hu P7 al;have l8:=l7.new (.list (0,0) (z.A.dB (behind.filter λx=>!(lU behind ((C.c i).ah.length-0) (mG C i) []).contains x))) hg;let y8:=y7.new g (.list (0,0) (z.A.dB (behind.filter λx=>!(lU behind ((C.c i).ah.length-0) (mG C i) []).contains x))) hg;have ur:=y8.un hr;refine hq (y8.new r _ hr).drop r (l8.new _ hr).drop rfl rfl ((Nw.none y8 hr).of l8) ur (cR ((aA ..).trans (aj (λv=>some (PO.list (0,0) v)) (kW (A:=z.A) _ _))) rfl) λx hx=>?_;rcases cy hx with h|h
 ·exact hx7 x h
 ·exact hbx x (d9 h).1
end
section
noncomputable def rk(i:Nat):Nat:=([0,1,2,3,0,0,0,2,2,2,3,4,2,3,3,0,0,4,5,6,7,7]:List Nat).getD i 0
theorem iH{i p:Nat}(h:par i=some p):rk p<rk i/\rk i<8:=by
 have key:∀ i,i<22->(match par i with|some p=>decide (rk p<rk i/\rk i<8)|none=>true)=true:=⋯;by_cases hi:i<22
 ·have:=key i hi
  rw[h] at this;exact of_decide_eq_true this
 ·unfold par at h
  rw[ji (Nat.le_of_not_lt hi)] at h;cases h
theorem KX(C:Cont):∀(k i:Nat),rk i<k->jJ C (k+1) i=jJ C k i:=by
 intro rr;induction rr with
 | zero=>exactλj h=>absurd h (j0 _)
 | succ k ih=>
  intro i h;show eG C _ i=eG C _ i;cases q:par i with
  | none=>rfl
  | some p=>dsimp only;rw[ih p (gr (iH q).1 (jq h))]
theorem yN(C:Cont)(i:Nat):aX C i=eG C (match par i with|some p=>aX C p|none=>[]) i:=by
 unfold aX;show eG C _ i=eG C _ i;cases q:par i with
 | none=>rfl
 | some p=>dsimp only;rw[KX C 11 p (gr (iH q).1 (fu (ja (iH q).2) ()))]
section
variable{m:Nat}{X:XP}{w:Wc}{C:Cont}{i j:Nat}{b:Ad}
theorem Q0(k:Kp):handedIn k.kv=true:=yZ _
theorem xV(A:k9)(o:Op Nat):handedIn (A.rf o)=true:=yZ _
theorem Jg(A:k9)(o:Op Nat):kZ (A.rf o)=true:=jK _
structure Nq(z z':Z w C [])(i:Nat)(e:Ad):Prop where
 le:Le z z'
 A:z'.A=z.A
 n:z'.n=z.n
 u:z'.h e=some (8,99)
 at_:z'.P e=some (.list (0,0) (z.A.dB (aX C i)))
 ex:∀ x∈aX C i,∃ b,z.A.ad x=some b
theorem qJ:∀(k i:Nat) (z:Z w C []) {a:Ad} {X:XP} {Q:VQ},rk i<k->z.A.ad i=some a->(∀(z':Z w C []) e,Nq z z' i e->Q (.ref e) z'.P)->Calls (m+2*k+3) 474 [.ref w.W,.ref a] z.P X Q:=by
 intro rr;induction rr with
 | zero=>exact @λj j j j j h j j=>absurd h (j0 _)
 | succ k ih=>
  intro i z a X Q hk ha hq;have M:=z.K.mod i a ha nn
  have miss:wpS (m+2*k+3+1) [false,false,false] (match rI with|.seq (.bF _ u _) r=>.seq u r|_=>.skip) [some (.ref w.W),some (.ref a),none] z.P X (λj P'=>Q .none P') Q:=by
   refine aG z.K.W rfl rfl rfl (fS 27 rfl rfl rfl ?_);let Q1:VQ:=λv P'=>bD .tup [.int z.n.V 0,v] P' λv P'=>vR a 16 v P' λP'=>wpS (m+2*k+3+1) [false,false,false] (match rI with|.seq _ r=>r|_=>.skip) [some (.ref w.W),some (.ref a),none] P' X (λj P'=>Q .none P') Q
   have fin:∀(z1:Z w C []) (b1:Ad) (behind:List Nat),Le z z1->z1.A=z.A->z1.n=z.n->z1.P b1=some (.list (0,0) (z1.A.dB behind))->(∀ x∈behind,∃ b,z1.A.ad x=some b)->behind.length<1000->aX C i=eG C behind i->wpS (m+2*k+3) Er (match mV with|.seq _ u=>u|_=>.skip) (some (.ref w.W)::some (.ref a)::some (.ref b1)::nN 9) z1.P (λe P'=>X e (bJ P')) (λj P'=>Q1 .none (bJ P')) (λv P'=>Q1 v (bJ P')):=λz1 b1 behind l1 A1 n1 hb hbx hl he=>by
    refine EW (Q:=Q1) z1 (by rw[A1];exact ha) hb hbx hl λz2 e l2 A2 n2 hn hu h2 hx2=>⟨bl,λkt hkt=>?_⟩
    let z3:=z2.new kt (.tup [.int z.n.V 0,.ref e]) hkt;have A3:z2.A=z.A:=A2.trans A1;have n3:z.n.V=z2.n.V:=by rw[n2,n1]
    have ha3:z2.A.ad i=some a:=by rw[A3];exact ha
    have ht:z3.P kt=some (.tup [.int z3.n.V 0,.ref e]):=(aA ..).trans (by rw[n3];rfl);have hL:z3.P e=some (.list (0,0) (z3.A.dB (aX C i))):=(aI h2 hkt).trans (by rw[he];show _=some (PO.list (0,0) (z2.A.dB (eG C behind i)));rw[A2]);have hx:∀ x∈aX C i,∃ b,z3.A.ad x=some b:=λx hx=>by rw[he] at hx;show ∃ b,z2.A.ad x=some b;rw[A2];exact hx2 x hx
    refine bQ (z3.at_ ha3 nn) rfl bl ?_;let z4:=z3.keep ha3 ht hL (z2.un hkt) hu hx;have l3:Le z z3:=(l1.trans l2).new _ hkt;have l4:Le z z4:=l3.keep ha3 ht hL (z2.un hkt) hu hx ((Nw.none z2 hkt).of (l1.trans l2)) (hn.of l1);have na:∀{c o},z3.h c=none->z3.P c=some o->z4.P c=some o:=λq p=>(aD λx=>by rw[x,(z3.K.mod i a ha3 nn).oa] at q;cases q).trans p;refine aG (v:=.ref kt) (aA ..) rfl rfl rfl (oj (v:=.ref e) (na (z2.un hkt) ht) () () rfl ?_);refine hq z4 e ⟨l4,A3,n2.trans n1,bX ..,na hu ?_,λx y=>A3▸hx x y⟩;rw[hL];show some (PO.list (0,0) (z2.A.dB _))=_;rw[A3]
   refine aG (z.at_ ha nn) rfl rfl (xV ..) ⟨Jg ..,?_⟩;have le:=yN C i;cases q:par i with
   | none=>rw[q] at le;exact⟨bl,λe he=>fin (z.new e _ he) e [] ((Le.refl z).new _ he) rfl rfl (aA ..) (λx h=>absurd h gk) () le⟩
   | some p=>obtain⟨b,hb⟩:=z.K.ref i a ha nn p (iL (mem_some q));rw[aQ hb];refine aG (v:=.ref b) (z.at_ ha nn) rfl (by show some (z.A.rf (par i))=_;rw[q,aQ hb]) rfl ?_;refine ih p z (gr (iH q).1 (jq hk)) hb λz1 e1 L=>?_;rw[q] at le;refine fin z1 e1 (aX C p) L.le L.A L.n (by rw[L.A];exact L.at_) (λx hx=>by rw[L.A];exact L.ex x hx) (k6 (kD z.K.wf 12 p) ()) le
  refine aB 28 rfl rfl rfl ?_;refine aG (z.at_ ha nn) rfl rfl (Q0 _) ?_;cases q:(z.kp i).kp with
  | none=>unfold Kp.kv;rw[q];exact⟨rfl,miss⟩
  | some r=>
   obtain⟨kt,kl,v,ln⟩:=r;have kk:=M.kp kt kl v ln q;have ev:(z.kp i).kv=.ref kt:=by unfold Kp.kv;rw[q];rfl
   have eg:eF 16 (lI z.A (C.lk i) i (z.kp i))=some (.ref kt):=by show some (z.kp i).kv=_;rw[ev]
   rw[ev];refine⟨rfl,aG (z.at_ ha nn) rfl eg rfl (oj (v:=.int v 0) kk.1.1 () () rfl (aG (v:=.int z.n.V 0) z.K.W rfl rfl rfl ?_))⟩;by_cases hv:v=z.n.V
   ·refine bf (by rw[au hv];rfl) (aG (z.at_ ha nn) rfl eg rfl (oj (v:=.ref kl) kk.1.1 () () rfl ?_))
    have e:=kk.2.2.1 hv;subst e;exact hq z kl ⟨.refl z,rfl,rfl,kk.1.2.2.2,kk.1.2.1,kk.2.2.2⟩
   ·exact bt (by rw[av hv];rfl) miss
end
end
section
theorem HU{Ph:PH}{a:Ad}{t:Nat × Nat}{kvs:List (Str × Va)}(h:Ph a=some (.dict t kvs)):(match rd Ph a with
 | some (.dict ..)=>True
 | _=>False):=by rw[dF h];trivial
theorem Cg{k:Str}{ea:Str->Ad}:∀{mt:List (Str × Ent)},aR k (mt.map λq=>(q.1,.ref (ea q.1)))=(mt.lookup k).map λj=>.ref (ea k):=by
 intro rr;induction rr with
 | nil=>exact rfl
 | cons q mt ih=>
  show(if q.1=k then _ else _)=_;by_cases e:q.1=k
  ·rw[ai e,f6,e,bg];show some (Value.ref (ea q.1))=some (.ref (ea k));rw[e]
  ·rw[aa e,f6,beq_eq_false_iff_ne.mpr (gz e)];exact ih
theorem yS{k:Str}{d:Ent}:∀{mt:List (Str × Ent)},mt.lookup k=some d->(k,d)∈mt:=by
 intro rr;induction rr with
 | nil=>exactλh=>by cases h
 | cons q mt ih=>
  intro h;rw[f6] at h;cases e:k==q.1 with
  | true=>rw[e] at h;obtain rfl:=kr h;rw[beq_iff_eq.mp e];exact .head _
  | false=>rw[e] at h;exact .tail _ (ih h)
noncomputable def iX(C:Cont)(x:Str):List Nat->Ent
 | []=>none
 | i::l=>match (C.c i).mt.lookup x with
  | some d=>d
  | none=>iX C x l
theorem pW{C:Cont}{x:Str}{i:Nat}{l:List Nat}:iX C x (i::l)=match (C.c i).mt.lookup x with
  | some d=>d
  | none=>iX C x l:=rfl
noncomputable def aW(C:Cont)(i:Nat)(x:Str):Ent:=iX C x (aX C i)
section
variable{m:Nat}{X:XP}{Q:VQ}{w:Wc}{C:Cont}{i j:Nat}{b:Ad}{x:Str}{P0:PH}
theorem IA{i:Nat}{s:Str}(h:nat i=some s):jB (nat i)=.str s 0:=by rw[h];rfl
theorem vZ(z:Z w C [])(ha:z.A.ad i=some a){s:Str}(hs:nat i=some s)(p:Pu z.P P0)(hq:∀ P',Pu P0 P'->Q .none P'):Calls (m+1) 502 [.ref w.W,.ref a,.str x 0] P0 X Q:=by
 have M:=z.K.mod i a ha nn;have fe:eF 15 (lI z.A (C.lk i) i (z.kp i))=some (.str s 0):=by show some (jB (nat i))=_;rw[IA hs]
 refine aB 29 rfl rfl rfl (aG (v:=.ref w.nd) (p _ _ z.K.W) rfl rfl rfl ⟨λq=>HU (p _ _ z.K.nd),aG (p _ _ M.at_) rfl fe rfl λe he q=>?_⟩);have p1:Pu z.P (upd P0 e (.dict (0,0) [])):=p.new _ he;refine MJ (p1 _ _ z.K.nd) ⟨mu (aA ..),uK (aA ..) ⟨rfl,aG (v:=.ref w.pd) (p1 _ _ z.K.W) rfl rfl rfl ⟨λq=>HU (p1 _ _ z.K.pd),aG (p1 _ _ M.at_) rfl fe rfl λf hf q=>?_⟩⟩⟩;exact MJ (p1.new _ hf _ _ z.K.pd) ⟨mu (aA ..),uK (aA ..) ⟨rfl,hq _ (((Pu.refl P0).new _ he).new _ hf)⟩⟩
theorem oM(z:Z w C [])(ha:z.A.ad i=some a)(p:Pu z.P P0)(hq:∀ P',Pu P0 P'->Q (I5 (((C.c i).mt.lookup x).map λj=>(z.kp i).ea x)) P'):Calls (m+2) 509 [.ref w.W,.ref a,.str x 0] P0 X Q:=by
 have M:=z.K.mod i a ha nn;have md:=p _ _ M.md;refine aB 30 rfl rfl rfl (aG (p _ _ M.at_) rfl rfl rfl ⟨mu md,uK md ?_⟩);rw[Cg];cases q:(C.c i).mt.lookup x with
 | none=>
  rw[q] at hq;refine⟨rfl,aG (p _ _ M.at_) rfl rfl (tM _) ⟨mF _,?_⟩⟩;cases hs:nat i with
  | none=>exact⟨rfl,hq P0 (Pu.refl _)⟩
  | some s=>exact vZ z ha hs p λP' p'=>⟨rfl,rfl,hq P' p'⟩
 | some d=>rw[q] at hq;have me:=M.ent _ (yS q);refine⟨rfl,rfl,aG (p _ _ me.1) rfl rfl rfl ?_⟩;cases d<;>exact hq P0 (Pu.refl _)
noncomputable def Gl(z:Z w C [])(v:Va):Ent->Prop
 | none=>v=.none
 | some q=>∃ e r,v=.ref e/\z.P e=some (.inst 256 (sZ (some q) r))/\z.h e=some (9,99)
theorem vY(z:Z w C []){l:Ad}{t:Nat × Nat}{ln:List Nat}(hl:z.P l=some (.list t (z.A.dB ln)))(hx:∀ j∈ln,∃ b,z.A.ad j=some b)(hb:ln.length<big)(hq:∀ P' v,Pu z.P P'->Gl z v (iX C x ln)->Q v P'):Calls (m+3) 516 [.ref w.W,.ref l,.str x 0] z.P X Q:=by
 refine aB 31 rfl rfl rfl (cO hl (by rw[fR];exact hb) ?_)
 have key:∀(r:List Nat) (P0:PH) (v3 v4:Op Va),Pu z.P P0->(∀ j∈r,∃ b,z.A.ad j=some b)->(∀ P' v,Pu z.P P'->Gl z v (iX C x r)->Q v P')->cL (λv l P' k=>wpS (m+2) (fF 6) (match oG with|.seq (.loop _ _ b) _=>b|_=>.skip) (l.set 3 (some v)) (jV (fF 6) 3 P') X k Q) (λP'=>P' l=some (.list t (z.A.dB ln))) (z.A.dB r) [some (.ref w.W),some (.ref l),some (.str x 0),v3,v4,none] P0 (λu P'=>Q .none P'):=λr=>by
  induction r with
  | nil=>exactλP0 v3 v4 p u h=>h P0 .none p rfl
  | cons j r ih=>
   intro P0 v3 v4 p hx h;obtain⟨b,hb⟩:=hx j (.head _);show cL _ _ (z.A.rf (some j)::z.A.dB r) _ _ _;rw[aQ hb];refine oM z hb p λP2 p2=>?_;have pp:=p.trans p2;cases q:(C.c j).mt.lookup x with
   | none=>refine⟨rfl,pp _ _ hl,ih P2 _ _ pp (λy hy=>hx y (.tail _ hy)) ?_⟩;rw[pW] at h;rw[q] at h;exact h
   | some d=>
    have me:=(z.K.mod j b hb nn).ent _ (yS q);refine⟨rfl,aG (pp _ _ me.1) rfl rfl rfl ?_⟩;cases d with
    | none=>exact h P2 .none pp (by rw[pW];rw[q];rfl)
    | some d=>exact h P2 _ pp (by rw[pW];rw[q];exact⟨_,_,rfl,me⟩)
 exact key ln z.P none none (Pu.refl _) hx hq
structure Gr(z z':Z w C []):Prop where
 le:Le z z'
 A:z'.A=z.A
 n:z'.n=z.n
theorem qs(i:Nat):rk i<8:=by
 by_cases h:i<22
 ·exact(by decide +kernel:∀ i,i<22->rk i<8) i h
 ·unfold rk;rw[gw,ji (Nat.le_of_not_lt h)];decide
theorem ye(z:Z w C [])(ha:z.A.ad i=some a)(hq:∀(z':Z w C []) v,Gr z z'->Gl z' v (aW C i x)->Q v z'.P):Calls (m+20) 523 [.ref w.W,.ref a,.str x 0] z.P X Q:=by
 refine aB 32 rfl rfl rfl (qJ 8 i z (qs i) ha λz1 e L=>?_);refine vY z1 (by rw[L.A];exact L.at_) (λj hj=>by rw[L.A];exact L.ex j hj) (k6 (kD z.K.wf 12 i) ()) λP' v p hv=>hq (z1.pu P' p) v ⟨L.le.pu P' p,L.A,L.n⟩ ?_;replace hv:Gl z1 v (aW C i x):=hv;cases q:aW C i x with
 | none=>rw[q] at hv;exact hv
 | some d=>rw[q] at hv;exact hv.elim λe h=>h.elim λr h=>⟨e,r,h.1,p _ _ h.2.1,h.2.2⟩
end
end
section
def Bt(P P':PH)(a:Ad):Prop:=∀ c o,c≠a->P c=some o->P' c=some o
theorem Bt.refl(P:PH)(a:Ad):Bt P P a:=λq q q h=>h
theorem Bt.trans{P P' P'':PH}{a:Ad}(x:Bt P P' a)(y:Bt P' P'' a):Bt P P'' a:=λc o n h=>y c o n (x c o n h)
theorem Bt.put{P P':PH}{a:Ad}(x:Bt P P' a)(o:PO):Bt P (upd P' a o) a:=λc o' n h=>(aD n).trans (x c o' n h)
theorem Bt.new{P P':PH}{a e:Ad}(x:Bt P P' a)(o:PO)(he:P' e=none):Bt P (upd P' e o) a:=λc o' n h=>aI (x c o' n h) he
theorem Bt.fresh{P P':PH}{a e:Ad}{o:PO}(x:Bt P P' a)(ha:P a=some o)(ha':P' a≠none)(he:P' e=none):P e=none:=by
 cases q:P e with
 | none=>rfl
 | some o'=>
  by_cases n:e=a
  ·subst n;exact absurd he ha'
  ·rw[x e o' n q] at he;cases he
section
variable{m:Nat}{X:XP}{Q:VQ}{N:NP}{P0:PH}{num ow nm ic pa ou:Va}
noncomputable def T6(num ow:Va)(fd:Ad):List (Nat × Va):=[(0,num),(1,ow),(2,.ref fd),(3,.none),(4,.bool false),(5,.none)]
theorem mZ{C:Ad}(h:P0 a=some (.inst C []))(hc:(([0,1,2,3,4,5]:List Nat).all λx=>gQ C x)=true)(hq:∀ P' fd,Bt P0 P' a->P0 fd=none->fd≠a->P' a=some (.inst C (T6 num ow fd))->P' fd=some (.dict (0,0) [])->Q .none P'):
  Calls (m+1) 37 [.ref a,num,ow] P0 X Q:=by
 have f:∀ x∈([0,1,2,3,4,5]:List Nat),gQ C x=true:=dz hc;have l:∀{fs:List (Nat × Va)},fs.length.ble 899=true->fs.length<900:=λh=>j6 (bl h);refine aB 0 rfl rfl rfl (bQ h (f 0 ()) (l rfl) (bQ (aA ..) (f 1 ()) (l rfl) λfd hf=>?_));have x0:=((Bt.refl P0 a).put (.inst C (eH 0 num []))).put (.inst C (eH 1 ow (eH 0 num [])));have n:fd≠a:=λq=>by rw[q,aA] at hf;cases hf
 refine bQ (aI (aA ..) hf) (f 2 ()) (l rfl) (bQ (aA ..) (f 3 ()) (l rfl) (bQ (aA ..) (f 4 ()) (l rfl) (bQ (aA ..) (f 5 ()) (l rfl) ?_)));exact hq _ fd (((((x0.new _ hf).put _).put _).put _).put _) (x0.fresh h (by rw[aA];intro q;cases q) hf) n (aA ..) ((((((Bt.refl _ a).put _).put _).put _).put _) fd _ n (aA ..))
noncomputable def k0(fd md cd xd ad:Ad):Kp:=⟨fd,md,cd,xd,ad,(0,0),λq=>0,λq=>⟨"",0,0⟩,none⟩
noncomputable def m0(num ow nm ic pa ou:Va)(k:Kp):List (Nat × Va):=[(0,num),(1,ow),(2,.ref k.fd),(3,.none),(4,.bool false),(5,.none),(6,nm),(7,ic),(8,pa),(9,ou),(10,.ref k.md),(11,.ref k.cd),(12,.ref k.xd),(13,.ref k.ad),(14,.none),(15,.none),(16,.none)]
structure BC(P0 P':PH)(a:Ad)(k:Kp):Prop where
 pu:Pu P0 P'
 na:P0 a=none
 nf:P0 k.fd=none
 nm:P0 k.md=none
 nc:P0 k.cd=none
 nx:P0 k.xd=none
 nd:P0 k.ad=none
 fd:P' k.fd=some (.dict (0,0) [])
 md:P' k.md=some (.dict (0,0) [])
 cd:P' k.cd=some (.dict (0,0) [])
 xd:P' k.xd=some (.list (0,0) [])
 ad:P' k.ad=some (.list (0,0) [])
 d1:k.fd≠k.md
 d2:k.fd≠k.cd
 d3:k.md≠k.cd
 d4:k.xd≠k.ad
theorem kY{C:Ad}{x:Nat}{o:PO}{fs:List (Nat × Va)}{P':PH}{R1 R3:Ad->Ad->List (Nat × Va)->Prop}{R2:Ad->Ad->Prop}(h:P' a=some (.inst C fs))(hf:gQ C x=true)(hl:fs.length.ble 899=true)
  (hq:∀ e,P' e=none->e≠a->Bt P' (upd (upd P' e o) a (.inst C (eH x (.ref e) fs))) a->upd (upd P' e o) a (.inst C (eH x (.ref e) fs)) a=some (.inst C (eH x (.ref e) fs))->upd (upd P' e o) a (.inst C (eH x (.ref e) fs)) e=some o->R1 e C fs):
  ∀ e,P' e=none->(match (upd P' e o) a with
   | some (.inst C fs)=>gQ C x=true/\fs.length<900/\R1 e C fs
   | some (.raw C)=>(C=785/\cS x=true)/\R2 e C
   | some (.jX C fs)=>(C=785/\cS x=true/\fs.length<900)/\R3 e C fs
   | _=>False):=λe he=>
 have n:e≠a:=λq=>by rw[q,h] at he;cases he
 bQ (aI h he) hf (j6 (bl hl)) (hq e he n (((Bt.refl P' a).new o he).put _) (aA ..) ((aD n).trans (aA ..)))
theorem qh(ha:P0 a=none)(hq:∀ P' fd md cd xd ad,BC P0 P' a (k0 fd md cd xd ad)->P' a=some (.inst 228 (m0 num ow nm ic pa ou (k0 fd md cd xd ad)))->N [some (.ref a),some num,some ow,some nm,some ic,some pa,some ou,none] P'):
  wpS (m+1) (fF 8) dY [some (.ref a),some num,some ow,some nm,some ic,some pa,some ou,none] (upd P0 a (.inst 228 [])) X N Q:=by
 have l:∀{fs:List (Nat × Va)},fs.length.ble 899=true->fs.length<900:=λh=>j6 (bl h)
 have old:∀{P':PH} {e:Ad},Bt (upd P0 a (.inst 228 [])) P' a->e≠a->P' e=none->P0 e=none:=λ{P' e} b n h=>by
  cases q:P0 e with
  | none=>rfl
  | some o=>rw[b e o n ((aD n).trans q)] at h;cases h
 refine mZ (aA ..) rfl λP1 fd b1 n1 e1 h1 f1=>?_;refine bQ h1 rfl (l rfl) (bQ (aA ..) rfl (l rfl) (bQ (aA ..) rfl (l rfl) (bQ (aA ..) rfl (l rfl) (kY (aA ..) rfl rfl λmd n2 e2 b2 h2 f2=>?_))));have d1:fd≠md:=λq=>by subst q;cases n2.symm.trans ((((((Bt.refl P1 a).put _).put _).put _).put _) fd _ e1 f1)
 replace n2:=old ((((b1.put _).put _).put _).put _) e2 n2;replace b2:=((((Bt.refl P1 a).put _).put _).put _).put _ |>.trans b2
 generalize upd (upd _ md _) a _=P2 at b2 h2 f2 ⊢;replace f1:=b2 fd _ e1 f1;replace b1:=b1.trans b2;refine kY h2 rfl rfl λcd n3 e3 b3 h3 f3=>?_;have d2:fd≠cd:=λq=>by rw[<-q,f1] at n3;cases n3
 have d3:md≠cd:=λq=>by rw[<-q,f2] at n3;cases n3
 replace n3:=old b1 e3 n3;generalize upd (upd _ cd _) a _=P3 at b3 h3 f3 ⊢;refine⟨bl,kY h3 rfl rfl λxd n4 e4 b4 h4 f4=>?_⟩;replace n4:=old (b1.trans b3) e4 n4;generalize upd (upd _ xd _) a _=P4 at b4 h4 f4 ⊢;refine⟨bl,kY h4 rfl rfl λad n5 e5 b5 h5 f5=>?_⟩;have d4:xd≠ad:=λq=>by rw[<-q,f4] at n5;cases n5
 replace n5:=old ((b1.trans b3).trans b4) e5 n5;generalize upd (upd _ ad _) a _=P5 at b5 h5 f5 ⊢;refine bQ h5 rfl (l rfl) (bQ (aA ..) rfl (l rfl) (bQ (aA ..) rfl (l rfl) ?_));have b6:∀ o1 o2 o3,Bt P5 (upd (upd (upd P5 a o1) a o2) a o3) a:=λo1 o2 o3=>(((Bt.refl P5 a).put o1).put o2).put o3
 have key:∀{P6:PH} {h:List (Nat × Va)},Bt P5 P6 a->P6 a=some (.inst 228 h)->BC P0 P6 a (k0 fd md cd xd ad):=λ{P6 h} b6 _=>
  have b56:=b5.trans b6;have b46:=b4.trans b56;have b36:=b3.trans b46
  ⟨λc o q=>(b1.trans b36) c o (λn=>by rw[n,ha] at q;cases q) ((aD λn=>by rw[n,ha] at q;cases q).trans q),ha,(aD e1).symm.trans n1,n2,n3,n4,n5,b36 _ _ e1 f1,b36 _ _ e2 f2,b46 _ _ e3 f3,b56 _ _ e4 f4,b6 _ _ e5 f5,d1,d2,d3,d4⟩
 exact hq _ fd md cd xd ad (key (b6 _ _ _) (aA ..)) (aA ..)
end
end
section
noncomputable def k9.set(A:k9)(i:Nat)(a:Ad)(num:Int):k9:=⟨λj=>if j=i then some a else A.ad j,λj=>if j=i then num else A.num j⟩
section
variable{w:Wc}{C C':Cont}{S:List Nat}{A:k9}{h h':eO}{n n':Nm}{kp:Nat->Kp}{i:Nat}{k:Kp}{num:Int}
theorem set_same(A:k9)(i:Nat)(a:Ad)(num:Int):(A.set i a num).ad i=some a:=ai rfl
theorem bT(hi:A.ad i=none)(j:Nat)(b:Ad)(e:A.ad j=some b):(A.set i a num).ad j=some b/\(A.set i a num).num j=A.num j:=by
 have n:j≠i:=λq=>by rw[q,hi] at e;cases e
 exact⟨(aa n).trans e,aa n⟩
theorem yM(hC:C'.c=C.c):∀ k i,jJ C' k i=jJ C k i:=by
 intro rr;induction rr with
 | zero=>exactλq=>rfl
 | succ k ih=>
  intro i;show eG C' _ i=eG C _ i;unfold eG mG;rw[hC];cases par i with
  | none=>rfl
  | some p=>dsimp only;rw[ih p]
theorem Core.open(K:Core w C S P A h n kp)(hi:A.ad i=none)(hlt:i<22)(hP:∀ c o t,h c=some t->c≠w.gK->P c=some o->P' c=some o)(hm:P' w.gK=some (.dict (0,0) n'.md))(hml:n'.md.length+miss (A.set i a num)<=12)(hmk:∀ q∈n'.md,q.1.length<big)
  (hmg:∀ j x,qC j=some x->aR x n'.md=((A.set i a num).ad j).map .ref) (hn:n'.N=n.N/\n'.V=n.V/\n'.cv=n.cv) (hc:∀ j,j≠i->C'.c j=C.c j) (hL:∀ j b,A.ad j=some b->aX C' j=aX C j) (hlk:C'.lk=C.lk) (hex:∀ j,12<=j->C'.ex j=if j=i then true else C.ex j) (wf:jQ C') (hnum:num<=n.N) (hinj:∀ j b,A.ad j=some b->A.num j≠num):
  Core w C' (i::S) P' (A.set i a num) h n' kp:=
 have dW:=K.oW;have nm:∀{c t},h c=some t->t≠(6,50)->c≠w.gK:=λq r x=>r (kr (by subst x;exact q.symm.trans K.om));have old:∀{j b},(A.set i a num).ad j=some b->j≠i->A.ad j=some b:=λe q=>(aa q).symm.trans e
 {W:=by
   have:=hP _ _ _ K.oW (nm K.oW ()) K.W;unfold sN at this ⊢
   rwa [hn.1,hn.2.1,hn.2.2]
  gK:=hm,nd:=hP _ _ _ K.on (nm K.on ()) K.nd,pd:=hP _ _ _ K.op (nm K.op ()) K.pd,vf:=hml,wJ:=hmk,ve:=hmg
  mod:=λj b e s=>by
   have q:j≠i:=λq=>s (by rw[q];exact .head _);have e':=old e q;have s':j∉S:=λx=>s (.tail _ x);rw[hn.2.1];refine(K.mod j b e' s').move e' (K.ref j b e' s') (λc o t x y p l=>⟨hP c o t x (nm x λz=>?_) p,x⟩) (bT hi) (by rw[hlk]) (hc j q) (eu _) λu=>hL j b e';subst z;rcases y with y|y
   ·exact absurd (K.le j b e').2 (by rw[<-y];decide)
   ·cases y
  ref:=λj b e s=>by
   have q:j≠i:=λq=>s (by rw[q];exact .head _);intro y hy;have hy':y∈refsOf C j:=by unfold refsOf at hy ⊢;rwa [hc j q,hlk] at hy
   exact(K.ref j b (old e q) (λx=>s (.tail _ x)) y hy').imp λb x=>(bT hi y b x).1
  inj:=λj j' b b' e e' q=>by
   by_cases x:j=i
   ·by_cases y:j'=i
    ·rw[x,y]
    ·refine absurd ?_ (hinj j' b' (old e' y))
     rw[<-(bT (a:=a) (num:=num) hi j' b' (old e' y)).2,<-q,x];exact ai rfl
   ·by_cases y:j'=i
    ·refine absurd ?_ (hinj j b (old e x))
     rw[<-(bT (a:=a) (num:=num) hi j b (old e x)).2,q,y];exact ai rfl
    ·refine K.inj j j' b b' (old e x) (old e' y) ?_
     rwa [(bT (a:=a) (num:=num) hi j b (old e x)).2,(bT (a:=a) (num:=num) hi j' b' (old e' y)).2] at q
  le:=λj b e=>by
   rw[hn.1];by_cases x:j=i
   ·subst x;rw[show(A.set j a num).num j=num from ai rfl];exact⟨hnum,hlt⟩
   ·rw[(bT (a:=a) (num:=num) hi j b (old e x)).2];exact K.le j b (old e x)
  lk:=λj q=>(K.lk j (by rwa [hlk] at q)).elim λb x=>⟨b,(bT hi j b x).1⟩
  ex:=λj q=>by
   rw[hex j q];by_cases x:j=i
   ·rw[ai x,x,set_same];rfl
   ·rw[aa x,<-K.ex j q];exact aj _ (aa x)
  wf:=wf,oW:=K.oW,om:=K.om,on:=K.on,op:=K.op
  ry:=λc t q=>by
   by_cases x:c=w.gK
   ·exact⟨_,by rw[x];exact hm,rfl⟩
   ·exact(K.ry c t q).imp λo y=>⟨hP c o t q x y.1,y.2⟩ }
theorem Core.close(K:Core w C (i::S) P A h n kp)(ha:A.ad i=some a)(hh:∀ c t,h c=some t->h' c=some t)(hs:∀ c t,h' c=some t->∃ o,P c=some o/\o.bR=false)(hr:∀ j∈refsOf C i,∃ b,A.ad j=some b)(M:D5 P A C h' n.V i a k):Core w C S P A h' n (λj=>if j=i then k else kp j):=
 have sm:∀{j},j∉S->j≠i->j∉i::S:=λs q x=>(ku x).elim q s
 {W:=K.W,gK:=K.gK,nd:=K.nd,pd:=K.pd,vf:=K.vf,wJ:=K.wJ,ve:=K.ve
  mod:=λj b e s=>by
   by_cases q:j=i
   ·subst q
    cases ha.symm.trans e;rw[ai rfl];exact M
   ·rw[aa q]
    exact(K.mod j b e (sm s q)).move e (K.ref j b e (sm s q)) (λc o t x y p y=>⟨p,hh c t x⟩) (λy y x=>⟨x,rfl⟩) rfl rfl (eu _) λy=>rfl
  ref:=λj b e s=>by
   by_cases q:j=i
   ·subst q;exact hr
   ·exact K.ref j b e (sm s q)
  inj:=K.inj,le:=K.le,lk:=K.lk,ex:=K.ex,wf:=K.wf,oW:=hh _ _ K.oW,om:=hh _ _ K.om,on:=hh _ _ K.on,op:=hh _ _ K.op,ry:=hs }
noncomputable def Fe(h:eO)(i:Nat)(a:Ad)(k:Kp):eO:=eN (eN (eN (eN (eN (eN h a (0,i)) k.fd (5,i)) k.md (1,i)) k.cd (2,i)) k.xd (3,i)) k.ad (4,i)
structure Cells(P:PH)(h:eO)(a:Ad)(k:Kp)(fs:List (Nat × Va))(ml cl:List (Str × Va))(xl al:List Va):Prop where
 at_:P a=some (.inst 228 fs)
 fd:P k.fd=some (.dict (0,0) [])
 md:P k.md=some (.dict k.tg ml)
 cd:P k.cd=some (.dict (0,0) cl)
 xd:P k.xd=some (.list (0,0) xl)
 ad:P k.ad=some (.list (0,0) al)
 ua:h a=none
 uf:h k.fd=none
 um:h k.md=none
 uc:h k.cd=none
 ux:h k.xd=none
 ud:h k.ad=none
 d1:k.fd≠k.md
 d2:k.fd≠k.cd
 d3:k.md≠k.cd
 d4:k.xd≠k.ad
structure UP(h h':eO)(i:Nat)(a:Ad)(k:Kp)(P:PH):Prop where
 oa:h' a=some (0,i)
 of:h' k.fd=some (5,i)
 om:h' k.md=some (1,i)
 oc:h' k.cd=some (2,i)
 ox:h' k.xd=some (3,i)
 od:h' k.ad=some (4,i)
 old:∀ c t,h c=some t->h' c=some t
 st:∀ c t,h' c=some t->h c=some t\/∃ o,P c=some o/\o.bR=false
theorem Cells.RI{fs:List (Nat × Va)}{ml cl:List (Str × Va)}{xl al:List Va}(c:Cells P h a k fs ml cl xl al)(i:Nat):UP h (Fe h i a k) i a k P:=by
 have p0:=c.at_;have p2:=c.md;have p3:=c.cd;have p4:=c.xd;have p5:=c.ad;have ne:∀{x y:Ad} {o o':PO},P x=some o->P y=some o'->o≠o'->x≠y:=λp q r z=>r (by subst z;rw[p] at q;exact kr q);have n1:=ne c.fd p0 xR;have v1:(eN h a (0,i)) k.fd=none:=(aM n1).trans c.uf;have v2:(eN (eN h a (0,i)) k.fd (5,i)) k.md=none:=(aM (gz c.d1)).trans ((aM (ne p2 p0 xR)).trans c.um);have v3:(eN (eN (eN h a (0,i)) k.fd (5,i)) k.md (1,i)) k.cd=none:=(aM (gz c.d3)).trans ((aM (gz c.d2)).trans ((aM (ne p3 p0 xR)).trans c.uc));have v4:(eN (eN (eN (eN h a (0,i)) k.fd (5,i)) k.md (1,i)) k.cd (2,i)) k.xd=none:=(aM (ne p4 p3 xR)).trans ((aM (ne p4 p2 xR)).trans ((aM (ne p4 c.fd xR)).trans ((aM (ne p4 p0 xR)).trans c.ux)));have v5:(eN (eN (eN (eN (eN h a (0,i)) k.fd (5,i)) k.md (1,i)) k.cd (2,i)) k.xd (3,i)) k.ad=none:=(aM (gz c.d4)).trans ((aM (ne p5 p3 xR)).trans ((aM (ne p5 p2 xR)).trans ((aM (ne p5 c.fd xR)).trans ((aM (ne p5 p0 xR)).trans c.ud))));refine⟨aY v5 (aY v4 (aY v3 (aY v2 (aY v1 (bX ..))))),aY v5 (aY v4 (aY v3 (aY v2 (bX ..)))),aY v5 (aY v4 (aY v3 (bX ..))),aY v5 (aY v4 (bX ..)),aY v5 (bX ..),bX ..,λx t q=>aY v5 (aY v4 (aY v3 (aY v2 (aY v1 (aY c.ua q))))),λx t q=>?_⟩
 ·by_cases q5:x=k.ad
  ·exact .inr ⟨_,by rw[q5];exact p5,rfl⟩
  by_cases q4:x=k.xd
  ·exact .inr ⟨_,by rw[q4];exact p4,rfl⟩
  by_cases q3:x=k.cd
  ·exact .inr ⟨_,by rw[q3];exact p3,rfl⟩
  by_cases q2:x=k.md
  ·exact .inr ⟨_,by rw[q2];exact p2,rfl⟩
  by_cases q1:x=k.fd
  ·exact .inr ⟨_,by rw[q1];exact c.fd,rfl⟩
  by_cases q0:x=a
  ·exact .inr ⟨_,by rw[q0];exact p0,rfl⟩
  exact .inl ((((((((aM q5).trans (aM q4)).trans (aM q3)).trans (aM q2)).trans (aM q1)).trans (aM q0)).symm).trans q)
end
end
section
section
variable{w w':Wc}{C C':Cont}{S S':List Nat}{i:Nat}{k:Kp}{fs fs':List (Nat × Va)}{ml cl:List (Str × Va)}{xl al:List Va}
theorem Cells.le{z:Z w C S}{z':Z w' C' S'}(c:Cells z.P z.h a k fs ml cl xl al)(l:Le z z'):Cells z'.P z'.h a k fs ml cl xl al:=
 have p0:=l.fr _ _ c.at_ rfl (.inl c.ua);have p1:=l.fr _ _ c.fd rfl (.inl c.uf);have p2:=l.fr _ _ c.md rfl (.inl c.um);have p3:=l.fr _ _ c.cd rfl (.inl c.uc);have p4:=l.fr _ _ c.xd rfl (.inl c.ux);have p5:=l.fr _ _ c.ad rfl (.inl c.ud)
 ⟨p0.1,p1.1,p2.1,p3.1,p4.1,p5.1,p0.2.trans c.ua,p1.2.trans c.uf,p2.2.trans c.um,p3.2.trans c.uc,p4.2.trans c.ux,p5.2.trans c.ud,c.d1,c.d2,c.d3,c.d4⟩
theorem nU{P:PH}{x y:Ad}{o o':PO}(p:P x=some o)(q:P y=some o')(r:o≠o'):x≠y:=λz=>r (by subst z;rw[p] at q;exact kr q)
theorem Cells.put{P:PH}{h:eO}(c:Cells P h a k fs ml cl xl al)(fs':List (Nat × Va)):Cells (upd P a (.inst 228 fs')) h a k fs' ml cl xl al:=⟨aA ..,(aD (nU c.fd c.at_ xR)).trans c.fd,(aD (nU c.md c.at_ xR)).trans c.md,(aD (nU c.cd c.at_ xR)).trans c.cd,(aD (nU c.xd c.at_ xR)).trans c.xd,(aD (nU c.ad c.at_ xR)).trans c.ad,c.ua,c.uf,c.um,c.uc,c.ux,c.ud,c.d1,c.d2,c.d3,c.d4⟩
theorem Cells.Rp{P:PH}{h:eO}(c:Cells P h a k fs ml cl xl al){x:Ad}{vs:List Va}(hx:P x=some (.list (0,0) vs))(u:h x=none)(n:x≠k.ad):Cells P h a { k with xd:=x } fs ml cl vs al:={ c with xd:=hx,ux:=u,d4:=n }
theorem Cells.cast{P:PH}{h:eO}{ml' cl':List (Str × Va)}{xl' al':List Va}(c:Cells P h a k fs ml cl xl al)(e1:fs=fs')(e2:ml=ml')(e3:cl=cl')(e4:xl=xl')(e5:al=al'):Cells P h a k fs' ml' cl' xl' al':=by subst e1 e2 e3 e4 e5;exact c
theorem BC.cells{z:Z w C S}{P':PH}(M:BC z.P P' a k)(ht:k.tg=(0,0))(h:P' a=some (.inst 228 fs)):Cells P' z.h a k fs [] [] [] []:=⟨h,M.fd,by rw[ht];exact M.md,M.cd,M.xd,M.ad,z.un M.na,z.un M.nf,z.un M.nm,z.un M.nc,z.un M.nx,z.un M.nd,M.d1,M.d2,M.d3,M.d4⟩
theorem DP{h:eO}{i:Nat}{c:Ad}(n0:c≠a)(n1:c≠k.fd)(n2:c≠k.md)(n3:c≠k.cd)(n4:c≠k.xd)(n5:c≠k.ad):Fe h i a k c=h c:=(((((aM n5).trans (aM n4)).trans (aM n3)).trans (aM n2)).trans (aM n1)).trans (aM n0)
noncomputable def Z.close(z:Z w C (i::S))(ha:z.A.ad i=some a)(c:Cells z.P z.h a k (lI z.A (C.lk i) i k) ((C.c i).mt.map λq=>(q.1,.ref (k.ea q.1))) ((C.c i).ct.map λq=>(q.1,.int q.2 0)) (z.A.dB (C.c i).mx) (z.A.dB (C.c i).ah))
  (he:∀ q∈(C.c i).mt,z.P (k.ea q.1)=some (.inst 256 (sZ q.2 (k.er q.1)))/\z.h (k.ea q.1)=some (9,99)) (hk:k.kp=none) (hr:∀ j∈refsOf C i,∃ b,z.A.ad j=some b):Z w C S where
 P:=z.P
 A:=z.A
 h:=Fe z.h i a k
 n:=z.n
 kp:=λj=>if j=i then k else z.kp j
 K:=
  have R:=c.RI i
  z.K.close ha R.old (λc t q=>(R.st c t q).elim (z.K.ry c t) id) hr
   {at_:=c.at_,fd:=c.fd,md:=c.md,cd:=c.cd,xd:=c.xd,ad:=c.ad,ent:=λq hq=>⟨(he q hq).1,R.old _ _ (he q hq).2⟩,kp:=λkt kl v ln e=>by rw[hk] at e;cases e
    oa:=R.oa,of:=R.of,om:=R.om,oc:=R.oc,ox:=R.ox,od:=R.od }
structure CR(z:Z w C S)(a:Ad)(k:Kp):Prop where
 n0:Nw z a
 n1:Nw z k.fd
 n2:Nw z k.md
 n3:Nw z k.cd
 n4:Nw z k.xd
 n5:Nw z k.ad
theorem CR.of{z:Z w C S}{z':Z w' C' S'}(l:Le z z')(n:CR z' a k):CR z a k:=⟨n.n0.of l,n.n1.of l,n.n2.of l,n.n3.of l,n.n4.of l,n.n5.of l⟩
theorem BC.nw{z:Z w C S}{P':PH}(M:BC z.P P' a k):CR z a k:=⟨.none z M.na,.none z M.nf,.none z M.nm,.none z M.nc,.none z M.nx,.none z M.nd⟩
theorem Le.RI{z0:Z w' C' S'}{z:Z w C (i::S)}(l:Le z0 z)(n:CR z0 a k){z':Z w C S}(eP:z'.P=z.P)(eA:z'.A=z.A)(eh:z'.h=Fe z.h i a k):Le z0 z':=⟨λc o q r t=>⟨by rw[eP];exact(l.fr c o q r t).1,by have f:∀ x,Nw z0 x->c≠x:=λx nx e=>nx o (by rw[<-e];exact q) r (by rw[<-e];exact t);rw[eh,DP (f _ n.n0) (f _ n.n1) (f _ n.n2) (f _ n.n3) (f _ n.n4) (f _ n.n5)];exact(l.fr c o q r t).2⟩,by rw[eA];exact l.ad⟩
end
theorem countP_le{p q:Nat->Bool}(h:∀ x,q x=true->p x=true):∀ l:List Nat,l.countP q<=l.countP p:=by
 intro rr;induction rr with
 | nil=>exact f7 _
 | cons x l ih=>
  rw[List.countP_cons,List.countP_cons];have:=ih;by_cases e:q x=true
  ·rw[ai e,ai (h x e)];exact j8 this
  ·rw[aa e];exact fu this (Nat.le_add_right ..)
theorem Ep{p q:Nat->Bool}(h:∀ x,q x=true->p x=true){i:Nat}(hp:p i=true)(hq:q i=false):∀ l:List Nat,i∈l->l.countP q+1<=l.countP p:=by
 intro rr;induction rr with
 | nil=>exactλm=>absurd m gk
 | cons x l ih=>
  intro m;rw[List.countP_cons,List.countP_cons];by_cases e:x=i
  ·rw[e,hp,hq,ai rfl,aa ()];exact j8 (countP_le h l)
  ·have:=ih ((ku m).resolve_left (gz e))
   by_cases f:q x=true
   ·rw[ai f,ai (h x f)];lia
   ·rw[aa f];lia
theorem yR{A A':k9}(h:∀ i a,A.ad i=some a->A'.ad i=some a/\A'.num i=A.num i):miss A'<=miss A:=countP_le (λx e=>by
 cases q:A.ad x with
 | none=>rfl
 | some b=>rw[(h x b q).1] at e;cases e) _
theorem vc{A:k9}{i:Nat}{a:Ad}{num:Int}(hi:A.ad i=none)(hl:i<12):miss (A.set i a num)+1<=miss A:=
 Ep (i:=i) (λx e=>by
  cases q:A.ad x with
  | none=>rfl
  | some b=>rw[(bT hi x b q).1] at e;cases e) (by rw[hi];rfl) (by rw[set_same];rfl) _ (List.mem_range.mpr hl)
end
theorem oq:bO 1055 0=some 857/\bL 0=none:=⋯
theorem DB:bO 1055 6=some 836/\bL 6=some 0:=⋯
theorem K0:bO 1055 11=some 869/\bL 11=none:=⋯
theorem Rg:bO 1055 12=some 862/\bL 12=none:=⋯
noncomputable def yW(i:Nat):Str:=(nat i).getD ""
theorem qV{i:Nat}{x:Str}(h:qC i=some x):i<12/\x=yW i/\nat i=some x:=by
 unfold qC at h;by_cases q:i<12
 ·rw[ai q] at h
  exact⟨q,by unfold yW;rw[h];rfl,h⟩
 ·rw[aa q] at h;cases h
theorem La:∀ i,i<12->∀ j,j<12->yW i=yW j->i=j:=⋯
theorem DG:∀ i,i<12->(yW i).length<big:=⋯
theorem IM:∀ i,i<12->fZ (yW i) [.str "Kernel" 0,.str "Comparable" 0,.str "Enumerable" 0]=some (!gJ i):=⋯
noncomputable def E9(i:Nat):Va:=match par i with
 | none=>.none
 | some p=>.str (yW p) 0
theorem Lc:(List.range 12).map (λi=>aR (yW i) iD)=(List.range 12).map λi=>some (E9 i):=by kernel_rfl
theorem RC:∀ i,i<12->∀ p∈(par i).toList,qC p=some (yW p):=⋯
theorem Ro:∀ i,i<12->qC i=some (yW i)/\gU i=none/\vV i≠[i]:=⋯
noncomputable def K4:List (Str × Va):=[("Object",.ref 793),("Numeric",.ref 794),("String",.ref 795),("Symbol",.ref 796),("Array",.ref 797),("Hash",.ref 798),("Range",.ref 799)]
noncomputable def Ip(i:Nat):Op Va:=if i=1 then some (.ref 793) else if i=7 then some (.ref 795) else if i=8 then some (.ref 797) else none
theorem Lb:(List.range 12).map (λi=>aR (yW i) K4)=(List.range 12).map Ip:=by kernel_rfl
theorem OJ(i:Nat):(Ip i=none/\vV i=[])\/∃ s j,Ip i=some (.ref s)/\vV i=[j]/\qC j=some (yW j)/\nQ s=some (.tup [.str (yW j) 0]):=by
 unfold Ip vV;by_cases h1:i=1
 ·exact .inr ⟨793,4,by rw[ai h1],by rw[ai h1],rfl,rfl⟩
 ·rw[aa h1,aa h1]
  by_cases h7:i=7
  ·exact .inr ⟨795,5,by rw[ai h7],by rw[ai h7],rfl,rfl⟩
  ·rw[aa h7,aa h7]
   by_cases h8:i=8
   ·exact .inr ⟨797,6,by rw[ai h8],by rw[ai h8],rfl,rfl⟩
   ·exact .inl ⟨by rw[aa h8],by rw[aa h8]⟩
theorem KJ(x y:Str)(v:Va):∀ l:List (Str × Va),aR y (cT x v l)=if x=y then some v else aR y l:=by
 intro rr;induction rr with
 | nil=>exact rfl
 | cons e r ih=>
  rw[tB];by_cases q:e.1=x
  ·rw[ai q]
   show(if e.1=y then some v else aR y r)=if x=y then some v else(if e.1=y then some e.2 else aR y r)
   rw[q];by_cases z:x=y
   ·rw[ai z,ai z]
   ·rw[aa z,aa z,aa z]
  ·rw[aa q]
   show(if e.1=y then some e.2 else aR y (cT x v r))=if x=y then some v else(if e.1=y then some e.2 else aR y r)
   rw[ih];by_cases z:e.1=y
   ·rw[ai z,ai z,aa λh=>q (z.trans h.symm)]
   ·rw[aa z,aa z]
theorem EJ{x:Str}{v:Va}{q:Str × Va}:∀{l:List (Str × Va)},q∈cT x v l->q.1=x\/∃ q'∈l,q'.1=q.1:=by
 intro rr;induction rr with
 | nil=>exactλh=>.inl (by rw[cu h])
 | cons e r ih=>
  intro h;rw[tB] at h;by_cases z:e.1=x
  ·rw[ai z] at h
   rcases ku h with h|h
   ·exact .inl (by rw[h];exact z)
   ·exact .inr ⟨q,.tail _ h,rfl⟩
  ·rw[aa z] at h
   rcases ku h with h|h
   ·exact .inr ⟨e,.head _,by rw[h]⟩
   ·exact(ih h).imp id λx=>x.elim λq' y=>⟨q',.tail _ y.1,y.2⟩
theorem LG(x:Str)(v:Va):∀ l:List (Str × Va),(cT x v l).length<=l.length+1:=by
 intro rr;induction rr with
 | nil=>exact f7 _
 | cons e r ih=>
  rw[tB];by_cases q:e.1=x
  ·rw[ai q];exact ki _
  ·rw[aa q];exact j8 (ih)
variable{v:Va}{kvs:List (Str × Va)}
theorem rY(ns:iC Ph){o:PO}(h:nQ a=some o):rd Ph a=some o:=by
 unfold rd;cases q:Ph a with
 | none=>exact h
 | some o'=>have:=ns a o' q;rw[h] at this;cases this
theorem bW{o:Op Bool}{b:Bool}{Q:VQ}(h:o=some b)(hq:Q (.bool b) Ph):xj o Ph Q:=by rw[h];exact hq
theorem Og{R:Va->Prop}{k:Str}(h:rd Ph a=some (.dict t kvs))(hk:aR k kvs=some v)(hq:R v):DJ (rd Ph a) λkvs=>Bv (aR k kvs) R:=by rw[h];show Bv (aR k kvs) R;rw[hk];exact hq
theorem Oq(h:rd Ph a=some (.dict t kvs)):(match rd Ph a with
 | some (.dict ..)=>True
 | _=>False):=by rw[h];trivial
theorem N4{R:List (Str × Va)->Prop}(h:rd Ph a=some (.dict t kvs))(hq:R kvs):(match rd Ph a with
 | some (.dict _ kvs)=>R kvs
 | _=>False):=by rw[h];exact hq
theorem Q3{R1:Nat × Nat->List Va->Prop}{R2:List Va->Prop}(h:rd Ph a=some (.tup vs))(hl:vs.length<big)(hq:R2 vs):(match rd Ph a with
 | some (.list t vs)=>vs.length<big/\R1 t vs
 | some (.tup vs)=>vs.length<big/\R2 vs
 | _=>False):=by rw[h];exact⟨hl,hq⟩
theorem PL(w:Wc)(n:Nm):eF 0 (sN w n)=none:=by unfold sN;cases w.mn<;>rfl
noncomputable def bV:Nat->U->U
 | n+1,.seq _ u=>bV n u
 | _,u=>u
theorem u9{A:k9}{lk:Bool}{i:Nat}{k:Kp}{num ow nm ic pa at' na kv:Va}(h0:num=.int (A.num i) 0)(h1:ow=A.rf (some (qk i)))(h2:OC A i lk=.none)(h3:nm=jB (qC i))(h4:ic=.bool (gJ i))(h5:pa=A.rf (par i))(h6:at'=A.rf (gU i))(h7:na=jB (nat i))(hk:kv=k.kv):
  [(0,num),(1,ow),(2,.ref k.fd),(3,.none),(4,.bool false),(5,.none),(6,nm),(7,ic),(8,pa),(9,.none),(10,.ref k.md),(11,.ref k.cd),(12,.ref k.xd),(13,.ref k.ad),(14,at'),(15,na),(16,kv)]=lI A lk i k:=by unfold lI;rw[h0,h1,h2,h3,h4,h5,h6,h7,hk]
section
variable{m:Nat}{X:XP}{Q:VQ}{w:Wc}{C:Cont}{S:List Nat}{i:Nat}{x:Str}
theorem t7(z:Z w C S)(hl:x.length<big)(hq:Q .none z.P):Calls (m+1) 869 [.ref w.W,.str x 0] z.P X Q:=aB 71 rfl rfl rfl ⟨⟨hl,bl⟩,aG (v:=.ref w.nd) z.K.W rfl rfl rfl λq=>bW (inD (dF z.K.nd)) ⟨⟨hl,bl⟩,aG (v:=.ref w.pd) z.K.W rfl rfl rfl λq=>bW (inD (dF z.K.pd)) hq⟩⟩
noncomputable def Z.AW(z:Z w C S)(hi:z.A.ad i=none)(hx:qC i=some x)(a:Ad)(num:Int)(hn:num<=z.n.N)(hj:∀ j b,z.A.ad j=some b->z.A.num j≠num):Z w C (i::S) where
 P:=upd z.P w.gK (.dict (0,0) (cT x (.ref a) z.n.md))
 A:=z.A.set i a num
 h:=z.h
 n:={ z.n with md:=cT x (.ref a) z.n.md }
 kp:=z.kp
 K:=
  have I:=qV hx
  z.K.open hi (gy I.1 ()) (λc o t u q p=>(aD q).trans p) (aA ..)
   (by have h1:=LG x (.ref a) z.n.md;have h2:=vc (a:=a) (num:=num) hi I.1;have h3:=z.K.vf;show(cT x (.ref a) z.n.md).length+_<=_;lia)
   (λq hq=>(EJ hq).elim (λh=>by rw[h,I.2.1];exact DG i I.1) λh=>h.elim λq' h=>by rw[<-h.2];exact z.K.wJ q' h.1)
   (λj y hy=>by
    have J:=qV hy;show aR y (cT x (.ref a) z.n.md)=_;rw[KJ];by_cases q:j=i
    ·subst q
     rw[ai (kr (hx.symm.trans hy)),set_same];rfl
    ·rw[aa λe=>q (La j J.1 i I.1 (J.2.1.symm.trans (e.symm.trans I.2.1))),z.K.ve j y hy]
     exact aj _ (aa q).symm)
   ⟨rfl,rfl,rfl⟩ (λu u=>rfl) (λu u u=>rfl) rfl (λj q=>(aa λe=>absurd (k6 (e▸q) I.1) (ig _)).symm) z.K.wf hn hj
theorem Le.AW{w':Wc}{C':Cont}{S':List Nat}{z0:Z w' C' S'}{z:Z w C S}(l:Le z0 z)(hi:z.A.ad i=none)(hx:qC i=some x)(a:Ad)(num:Int)(hn:num<=z.n.N)(hj:∀ j b,z.A.ad j=some b->z.A.num j≠num):Le z0 (z.AW hi hx a num hn hj):=l.trans ⟨λc o q r t=>⟨(aD λe=>by rw[e,z.K.om] at t;rcases t with t|⟨_,t⟩<;>cases t).trans q,rfl⟩,bT hi⟩
end
section
noncomputable abbrev U6:List Bool:=[true,false,false,false,false,false,false,false,false]
noncomputable def PN(N:Int)(i:Nat)(k:Kp):List (Nat × Va):=eH 15 (.str (yW i) 0) (m0 (.int N 0) .none (.str (yW i) 0) (.bool (gJ i)) .none .none k)
noncomputable def ND(N:Int)(i:Nat)(k:Kp)(pv ov:Va):List (Nat × Va):=eH 1 ov (eH 8 pv (PN N i k))
noncomputable def Tv(W:Ad)(i:Nat)(a:Ad)(v4:Va):Lv:=(some (.ref W)::some (.str (yW i) 0)::some (.bool (gJ i))::some (.ref a)::some v4::nN 4)
theorem cZ{fs:List (Nat × Va)}(h:fs.length.ble 899=true):fs.length<900:=j6 (bl h)
section
variable{m:Nat}{X:XP}{w:Wc}{C:Cont}{S:List Nat}{i:Nat}{N:Int}
abbrev CT(n t:Nat)(W:Ad)(i:Nat)(a:Ad)(v4:Va)(P':PH)(X:XP)(Q:VQ):Prop:=wpS n U6 (bV t iE) (Tv W i a v4) P' (λe P'=>X e (bJ P')) (λq P'=>Q .none (bJ P')) (λv P'=>Q v (bJ P'))
structure Way(z:Z w C S)(z7:Z w C (i::S))(a:Ad)(k:Kp)(N:Int)(fs:List (Nat × Va)):Prop where
 le:Le z z7
 nw:CR z a k
 c:Cells z7.P z7.h a k fs [] [] [] []
 ad:z7.A.ad i=some a
 num:z7.A.num i=N
theorem Way.go{z:Z w C S}{z7 z8:Z w C (i::S)}{k:Kp}{fs:List (Nat × Va)}(y:Way z z7 a k N fs)(l:Le z7 z8):Way z z8 a k N fs:=⟨y.le.trans l,y.nw,y.c.le l,(l.ad i a y.ad).1,(l.ad i a y.ad).2.trans y.num⟩
theorem Way.put{z:Z w C S}{z7:Z w C (i::S)}{k:Kp}{fs:List (Nat × Va)}(y:Way z z7 a k N fs)(fs':List (Nat × Va)):Way z (z7.put a (.inst 228 fs') y.c.ua) a k N fs':=⟨y.le.put _ y.nw.n0 _,y.nw,y.c.put fs',y.ad,y.num⟩
theorem Iq{Q:VQ}{z:Z w C S}{z7:Z w C (i::S)}{k:Kp}{e:Ad}{vs:List Va}{pv ov v4:Va}(I:i<12)(hi:z.A.ad i=none)(y:Way z z7 a k N (ND N i k pv ov))(hkp:k.kp=none)(he:z7.P e=none)(hpv:pv=z7.A.rf (par i))(hov:ov=z7.A.rf (some (qk i)))(hvs:vs=z7.A.dB (vV i))(hex:∀ j∈qk i::((par i).toList++vV i),∃ b,z7.A.ad j=some b)
  (hq:∀(z':Z w C S),Le z z'->z'.A.ad i=some a->Q (.ref a) z'.P):CT (m+2) 8 w.W i a v4 (upd (upd z7.P e (.list (0,0) vs)) a (.inst 228 (eH 12 (.ref e) (ND N i k pv ov)))) X Q:=by
 have hlk:C.lk i=false:=by
  cases q:C.lk i with
  | false=>rfl
  | true=>exact(z.K.lk i q).elim λb e=>by rw[hi] at e;cases e
 have B:=Ro i I;have c8:=y.c.le ((Le.refl z7).new (.list (0,0) vs) he);have ne:e≠k.ad:=λq=>by rw[q,y.c.ad] at he;cases he
 have c9:=c8.Rp (x:=e) (vs:=vs) (aA ..) (z7.un he) ne;have c10:=c9.put (eH 12 (.ref e) (ND N i k pv ov));let z8:=z7.new e (.list (0,0) vs) he;let z10:=z8.put a (.inst 228 (eH 12 (.ref e) (ND N i k pv ov))) c9.ua;have l10:Le z z10:=(y.le.new _ he).put _ y.nw.n0 c9.ua;have W:=z.K.wf.base i (.inl I);have fe:eH 12 (.ref e) (ND N i k pv ov)=lI z10.A (C.lk i) i { k with xd:=e }:=u9 (k:={ k with xd:=e }) (by rw[show z10.A.num i=N from y.num]) hov (by rw[hlk];rfl) (by rw[B.1];rfl) rfl hpv (by rw[B.2.1];rfl) (by rw[(qV B.1).2.2];rfl) (by unfold Kp.kv;rw[show({ k with xd:=e }:Kp).kp=none from hkp];rfl);have hx10:z10.A.dB (C.c i).mx=vs:=by rw[W.2.1,hvs];rfl
 have hd:z10.A.dB (C.c i).ah=[]:=by rw[W.2.2];rfl
 have hm:((C.c i).mt.map λq=>(q.1,Value.ref (({ k with xd:=e }:Kp).ea q.1)))=[]:=by rw[z.K.wf.Br i (.inl I)];rfl
 have hc:((C.c i).ct.map λq=>(q.1,Value.int q.2 0))=[]:=by rw[W.1];rfl
 have c11:Cells z10.P z10.h a { k with xd:=e } (lI z10.A (C.lk i) i { k with xd:=e }) ((C.c i).mt.map λq=>(q.1,Value.ref (({ k with xd:=e }:Kp).ea q.1))) ((C.c i).ct.map λq=>(q.1,Value.int q.2 0)) (z10.A.dB (C.c i).mx) (z10.A.dB (C.c i).ah):=c10.cast fe hm.symm hc.symm hx10.symm hd.symm
 let z11:=z10.close (k:={ k with xd:=e }) y.ad c11 (λq hq=>by rw[z.K.wf.Br i (.inl I)] at hq;cases hq) hkp (λj hj=>by
  unfold refsOf at hj;rw[B.2.1,hlk,W.2.1,W.2.2] at hj;refine hex j ?_
  simpa using hj)
 have nw11:CR z a { k with xd:=e }:=⟨y.nw.n0,y.nw.n1,y.nw.n2,y.nw.n3,(Nw.none z7 he).of y.le,y.nw.n5⟩
 have l11:Le z z11:=l10.RI nw11 rfl rfl rfl;have go:Q (.ref a) (bJ z11.P):=hq z11.drop l11.drop y.ad;refine aG (v:=.bool w.ready) z11.K.W rfl rfl rfl ?_;by_cases r:w.ready=true
 ·exact bt r (aU z11.K.W K0.1 (by rw[K0.2];trivial) (t7 z11 (DG i I) go))
 ·exact bf (by simpa using r) go
end
end
section
variable{m:Nat}{w:Wc}{C:Cont}{S:List Nat}{i:Nat}{N:Int}
def qD(n k:Nat):Prop:=∀{w:Wc} {C:Cont} {S:List Nat} (z:Z w C S) (i:Nat) {x:Str} {X:XP} {Q:VQ},miss z.A<=k->qC i=some x->(∀(z':Z w C S) a,Le z z'->z'.A.ad i=some a->Q (.ref a) z'.P)->Calls n 857 [.ref w.W,.str x 0] z.P X Q
theorem OL{X:XP}{Q:VQ}{z:Z w C S}{z5:Z w C (i::S)}{k:Kp}{pv ov v4:Va}{q:Nat}(ih:qD (m+2) q)(I:i<12)(hi:z.A.ad i=none)(y:Way z z5 a k N (ND N i k pv ov))(hkp:k.kp=none)(hm:miss z5.A<=q)(hpv:pv=z5.A.rf (par i))(hov:ov=z5.A.rf (some (qk i)))(hex:∀ j∈qk i::(par i).toList,∃ b,z5.A.ad j=some b)
  (hq:∀(z':Z w C S),Le z z'->z'.A.ad i=some a->Q (.ref a) z'.P):CT (m+2) 7 w.W i a v4 z5.P X Q:=by
 have hm':aR (yW i) K4=Ip i:=List.map_inj_left.mp Lb i (List.mem_range.mpr I);refine⟨λns=>Oq (rY (a:=792) (o:=.dict (0,0) K4) ns rfl),bl,λe he ns=>N4 (rY (a:=792) (o:=.dict (0,0) K4) ns rfl) ?_⟩;rw[hm'];have y6:=y.go ((Le.refl z5).new (.tup []) he);let z6:=z5.new e (.tup []) he;rcases OJ i with⟨e1,e2⟩|⟨s,j,e1,e2,e3,e4⟩
 ·rw[e1]
  refineλu=>Q3 (vs:=[]) (dF (aA ..)) bl λl hl=>?_
  exact bQ (aI y6.c.at_ hl) rfl (cZ rfl) (Iq (z7:=z6) I hi y6 hkp hl hpv hov (by rw[e2];rfl) (by rw[e2,jk];exact hex) hq)
 ·rw[e1]
  refineλns=>Q3 (rY ns e4) bl (aU z6.K.W oq.1 (by rw[oq.2];trivial) (ih z6 j hm e3 λz7 b l7 hb=>⟨λns=>rY ns e4,λl hl=>?_⟩))
  have y7:=y6.go l7;refine bQ (aI y7.c.at_ hl) rfl (cZ rfl) (Iq (z7:=z7) I hi y7 hkp hl ?_ ?_ ?_ ?_ hq)
  ·exact hpv.trans (o5 l7.ad λj hj=>hex j (.tail _ hj)).symm
  ·exact hov.trans (DQ l7.ad (hex _ (.head _))).symm
  ·rw[e2];show _=[z7.A.rf (some j)];rw[aQ hb];rfl
  ·intro y hy
   rw[e2] at hy;rcases ku hy with h|h
   ·exact(hex y (by rw[h];exact .head _)).imp λb x=>(l7.ad y b x).1
   ·rcases cy h with h|h
    ·exact(hex y (.tail _ h)).imp λb x=>(l7.ad y b x).1
    ·rw[cu h];exact⟨b,hb⟩
theorem Ir{X:XP}{Q:VQ}{z:Z w C S}{z5:Z w C (i::S)}{k:Kp}{pv v4:Va}{q:Nat}(ih:qD (m+2) q)(I:i<12)(hi:z.A.ad i=none)(y:Way z z5 a k N (eH 8 pv (PN N i k)))(hkp:k.kp=none)(hm:miss z5.A<=q)(hpv:pv=z5.A.rf (par i))(hex:∀ j∈(par i).toList,∃ b,z5.A.ad j=some b)
  (hq:∀(z':Z w C S),Le z z'->z'.A.ad i=some a->Q (.ref a) z'.P):CT (m+2) 6 w.W i a v4 z5.P X Q:=by
 refine aU z5.K.W oq.1 (by rw[oq.2];trivial) ?_
 have go:∀(z6:Z w C (i::S)) b,Le z5 z6->z6.A.ad (qk i)=some b->vR a 1 (.ref b) z6.P (λP'=>CT (m+2) 7 w.W i a v4 P' X Q):=λz6 b l6 hb=>by
  have y6:=y.go l6;refine bQ y6.c.at_ rfl (cZ rfl) (OL (z5:=z6.put a _ y6.c.ua) ih I hi (y6.put (ND N i k pv (.ref b))) hkp (fu (yR l6.ad) hm) ?_ (aQ hb).symm ?_ hq)
  ·exact hpv.trans (o5 l6.ad hex).symm
  ·intro j hj
   rcases ku hj with h|h
   ·rw[h];exact⟨b,hb⟩
   ·exact(hex j h).imp λb x=>(l6.ad j b x).1
 by_cases hC:gJ i=true
 ·exact bt hC (ih z5 3 hm rfl λz6 b l6 hb=>go z6 b l6 (by unfold qk;rw[ai hC];exact hb))
 ·exact bf (by simpa using hC) (ih z5 2 hm rfl λz6 b l6 hb=>go z6 b l6 (by unfold qk;rw[aa hC];exact hb))
theorem zS:∀(k:Nat),qD (m+2*k+5) k:=by
 intro k;induction k with
 | zero=>
  intro w C S z i x X Q hk hx hq;have I:=qV hx;refine aB 69 rfl rfl rfl (aG (v:=.ref w.gK) z.K.W rfl rfl rfl ⟨mu z.K.gK,uK z.K.gK ?_⟩);rw[z.K.ve i x hx];cases ha:z.A.ad i with
  | some a=>exact⟨rfl,hq z a (Le.refl z) ha⟩
  | none=>exact absurd (vc (a:=0) (num:=0) ha I.1) (by lia)
 | succ k ih=>
  intro w C S z i x X Q hk hx hq;have I:=qV hx;have hx':=I.2.1;subst hx';refine aB 69 rfl rfl rfl (aG (v:=.ref w.gK) z.K.W rfl rfl rfl ⟨mu z.K.gK,uK z.K.gK ?_⟩);rw[z.K.ve i _ hx];cases hi:z.A.ad i with
  | some a=>exact⟨rfl,hq z a (Le.refl z) hi⟩
  | none=>
  refine⟨rfl,aU z.K.W Rg.1 (by rw[Rg.2];trivial) (fS 70 rfl rfl rfl λns=>bW (b:=gJ i) (by rw[Uo (rY ns rfl),IM i I.1];exact aj some (Bool.not_not _)) ?_)⟩;refine aU z.K.W DB.1 (by rw[DB.2];exact PL w z.n) (iV z ?_);let z1:=z.gZ (z.n.N+1) z.n.V z.n.cv (g5 (eu _)) (eu _);have l1:Le z z1:=(Le.refl z).gZ _ _
  refineλa ha=>aB 4 rfl rfl rfl (qh ha λP2 fd md cd xd ad M hM=>⟨rfl,?_⟩)
  let z2:=z1.pu P2 M.pu;have hn:∀ j b,z2.A.ad j=some b->z2.A.num j≠z.n.N+1:=λj b e q=>absurd (z.K.le j b e).1 (by rw[show z.A.num j=z.n.N+1 from q];lia);refine aG (v:=.ref w.gK) z2.K.W rfl rfl rfl (cW z2.K.gK (k6 (fu (Nat.le_add_right ..) z2.K.vf) ()) ?_);let z3:=z2.AW hi hx a (z.n.N+1) (eu _) hn;have y3:Way z z3 a (k0 fd md cd xd ad) (z.n.N+1) (m0 (.int (z.n.N+1) 0) .none (.str (yW i) 0) (.bool (gJ i)) .none .none (k0 fd md cd xd ad)):=⟨(l1.pu P2 M.pu).AW hi hx a (z.n.N+1) (eu _) hn,M.nw.of l1,(M.cells rfl hM:Cells z2.P z2.h a _ _ _ _ _ _).le ((Le.refl z2).AW hi hx a (z.n.N+1) (eu _) hn),set_same ..,ai rfl⟩
  have k3:miss z3.A<=k:=Nat.le_of_succ_le_succ (fu (vc (a:=a) (num:=z.n.N+1) hi I.1) hk);refine bQ y3.c.at_ rfl (cZ rfl) ?_;have y4:=y3.put (PN (z.n.N+1) i (k0 fd md cd xd ad));let z4:=z3.put a (.inst 228 (PN (z.n.N+1) i (k0 fd md cd xd ad))) y3.c.ua
  refineλns=>Og (v:=E9 i) (rY (a:=789) (o:=.dict (0,0) iD) ns rfl) (List.map_inj_left.mp Lc i (List.mem_range.mpr I.1)) ?_
  have hq':∀(z':Z w C S),Le z z'->z'.A.ad i=some a->Q (.ref a) z'.P:=λz'=>hq z' a;cases q:par i with
  | none=>rw[show E9 i=.none by unfold E9;rw[q]];exact⟨rfl,bQ y4.c.at_ rfl (cZ rfl) (Ir (z5:=z4.put a _ y4.c.ua) (m:=m+2*k+3) ih I.1 hi (y4.put (eH 8 .none (PN (z.n.N+1) i (k0 fd md cd xd ad)))) rfl k3 (by rw[q];rfl) (by rw[q];intro j hj;cases hj) hq')⟩
  | some p=>
   rw[show E9 i=.str (yW p) 0 by unfold E9;rw[q]];refine⟨rfl,aU z4.K.W oq.1 (by rw[oq.2];trivial) (ih z4 p k3 (RC i I.1 p (mem_some q)) λz5 b l5 hb=>?_)⟩;have y5:=y4.go l5;refine bQ y5.c.at_ rfl (cZ rfl) (Ir (z5:=z5.put a _ y5.c.ua) (m:=m+2*k+3) ih I.1 hi (y5.put (eH 8 (.ref b) (PN (z.n.N+1) i (k0 fd md cd xd ad)))) rfl (fu (yR l5.ad) k3) ?_ ?_ hq')
   ·rw[q];exact(aQ hb).symm
   ·rw[q];intro j hj;rw[cu hj];exact⟨b,hb⟩
end
section
theorem Uu:bO 1055 7=some 919/\bL 7=some 17:=⋯
theorem Rl:bO 1055 19=some 982/\bL 19=none:=⋯
theorem EY:bO 1055 20=some 989/\bL 20=none:=⋯
theorem OB{α:Type}{l:List α}{n:Nat}(h:l.length=n+1):∃ a r,l=a::r/\r.length=n:=by
 cases l with
 | nil=>cases h
 | cons a r=>exact⟨a,r,rfl,Nat.succ.inj h⟩
theorem Tt{α:Type}{l:List α}(h:l.length=3):∃ a b c,l=[a,b,c]:=by obtain⟨a,r,e,h⟩:=OB h;obtain⟨b,r',e',h⟩:=OB h;obtain⟨c,r'',e'',h⟩:=OB h;exact⟨a,b,c,by rw[e,e',e'',List.length_eq_zero_iff.mp h]⟩
theorem PI{Ph:PH}{a:Ad}{R:Ad->Prop}(h:Ph a=some (.raw 785))(hq:R 785):(match Ph a with
 | some (.raw C)=>C=785/\R C
 | _=>False):=by rw[h];exact⟨rfl,hq⟩
theorem T7(w:Wc)(n:Nm):eF 17 (sN w n)=none:=by unfold sN;cases w.mn<;>rfl
noncomputable def Te(P:Params):Expr:=match jR P 989 with
 | [.Raise (some e) _ _]=>e
 | _=>default
noncomputable def RG(P:Params):Pos:=match jR P 989 with
 | [.Raise _ _ p]=>p
 | _=>default
theorem KC(P:Params):(fnAt P 989).body=.stmts [.Raise (some (Te P)) none (RG P)]:=by kernel_rfl
theorem NZ(P:Params):Aq (Kf P) 989 (fnAt P 989)=true:=by kernel_rfl
theorem KH(P:Params):(Kf P).lookup 989=some (((Kf P).lookup 989).getD default):=by kernel_rfl
theorem KG(P:Params):(((Kf P).lookup 989).getD default).data=.func (fnAt P 989):=by kernel_rfl
theorem QD(P:Params):zM (Kf P) 989 (fnAt P 989) [.Raise (some (Te P)) none (RG P)]:=Ar (KH P) (KG P) (NZ P) _ (KC P)
theorem N2(P:Params)(a b c:Va):sumOf (Kf P) (fnAt P 989) [a,b,c]=some (([ab a,ab b,ab c]:List Va).map some++[none]):=by kernel_rfl
theorem KD(P:Params):qP (Kf P) (fnAt P 989).scope.names (some (Te P)) none=.Fb (.aS (.loc 0) 19 (.cons (.loc 1) (.cons (.loc 2) .nil))):=by kernel_rfl
theorem N1(P:Params):iY (fnAt P 989).scope=false:=by kernel_rfl
section
variable{m:Nat}{X:XP}{Q:VQ}{w:Wc}{C:Cont}{S:List Nat}{i:Nat}{b:Ad}{x:Str}
theorem gV(z:Z w C S)(i:Nat)(hx:qC i=some x)(hq:∀(z':Z w C S) a,Le z z'->z'.A.ad i=some a->Q (.ref a) z'.P):Calls (m+29) 857 [.ref w.W,.str x 0] z.P X Q:=zS 12 z i (fu (Nat.le_add_left ..) z.K.vf) hx hq
theorem NI(z:Z w C S){v:Va}(hq:∀(z':Z w C S) e,Le z z'->Q (.ref e) z'.P):Calls (m+30) 919 [.ref w.W,v] z.P X Q:=by
 refine aB 77 rfl rfl rfl (aU z.K.W DB.1 (by rw[DB.2];exact PL w z.n) (iV z ?_));let z1:=z.gZ (z.n.N+1) z.n.V z.n.cv (g5 (eu _)) (eu _);refine aU z1.K.W oq.1 (by rw[oq.2];trivial) (gV z1 7 rfl λz2 s l2 hs e he=>aB 1 rfl rfl rfl (mZ (aA ..) rfl λP3 fd b3 j j h3 j=>bQ h3 rfl (cZ rfl) ⟨rfl,?_⟩))
 have p:Pu z2.P (upd P3 e (.inst 62 (eH 17 v (T6 (.int (z.n.N+1) 0) (.ref s) fd)))):=λc o q=>
  have n:c≠e:=λr=>by rw[r,he] at q;cases q
  (aD n).trans (b3 c o n ((aD n).trans q))
 exact hq (z2.pu _ p) e ((((Le.refl z).gZ _ _).trans l2).pu _ p)
noncomputable def Hu(num:Va)(b fd t:Ad):List (Nat × Va):=[(0,num),(1,.ref b),(2,.ref fd),(3,.none),(4,.bool false),(5,.none),(19,.ref t),(20,.none)]
theorem Kl(z:Z w C S){v:Va}(hi:qC i=some x)(hq:∀(z':Z w C S) e num b fd t,Le z z'->Nw z e->z'.h e=none->z'.P e=some (.inst 181 (Hu num b fd t))->z'.A.ad i=some b->Q (.ref e) z'.P):Calls (m+31) 982 [.ref w.W,.str x 0,v] z.P X Q:=by
 refine aB 81 rfl rfl rfl (aU z.K.W DB.1 (by rw[DB.2];exact PL w z.n) (iV z ?_));let z1:=z.gZ (z.n.N+1) z.n.V z.n.cv (g5 (eu _)) (eu _);refine aU z1.K.W oq.1 (by rw[oq.2];trivial) (gV z1 i hi λz2 s l2 hs=>aU z2.K.W Uu.1 (by rw[Uu.2];exact T7 w z2.n) (NI z2 λz3 t l3 e he=>aB 3 rfl rfl rfl (mZ (aA ..) rfl λP4 fd b4 j j h4 j=>bQ h4 rfl (cZ rfl) (bQ (aA ..) rfl (cZ rfl) ⟨rfl,?_⟩))))
 have p:Pu z3.P (upd (upd P4 e (.inst 181 (eH 19 (.ref t) (T6 (.int (z.n.N+1) 0) (.ref s) fd)))) e (.inst 181 (Hu (.int (z.n.N+1) 0) s fd t))):=λc o q=>
  have n:c≠e:=λr=>by rw[r,he] at q;cases q
  (aD n).trans ((aD n).trans (b4 c o n ((aD n).trans q)))
 have l:=(((Le.refl z).gZ (g5 (eu _)) (eu _)).trans l2).trans l3;exact hq (z3.pu _ p) e (.int (z.n.N+1) 0) s fd t (l.pu _ p) ((Nw.none z3 he).of l) (z3.un he) (aA ..) (l3.ad i s hs).1
structure w6(z:Z w C S)(e:Ad):Prop where
 at_:∃ fs t num b fd u,z.P e=some (.exc 785 fs)/\eF 43 fs=some (.ref t)/\z.P t=some (.inst 181 (Hu num b fd u))/\z.A.ad 11=some b
theorem BJ(z:Z w C S){v:Va}(hX:∀(z':Z w C S) e,Le z z'->w6 z' e->X e z'.P):Calls (m+33) 989 [.ref w.W,.str "NameError" 0,v] z.P X Q:=by
 refine Ae (qb wd.params) (QD wd.params) (λs args K hv=>?_) (KD wd.params) (l0:=([.ref w.W,.str "NameError" 0,v]:List Va).map some++[none]) ?_
 ·have hl:args.length=3:=by simpa using aj List.length hv
  rw[<-hv];obtain⟨a0,a1,a2,rfl⟩:=Tt hl;exact CA (N2 wd.params a0 a1 a2) K
 ·refine aU z.K.W Rl.1 (by rw[Rl.2];trivial) (Kl z (i:=11) rfl λz2 t num b fd u l2 nt ut ht hb e he=>aB 66 rfl rfl rfl (aB 65 rfl rfl rfl (PI (aA ..) (RX (aA ..) rfl (RY (aA ..) rfl (cZ rfl) ⟨rfl,_,aA ..,?_⟩)))))
  have e':ret (fnAt wd.params 989).scope=λP'=>P':=by funext P';unfold ret;rw[N1];rfl
  rw[e'];have p:∀ o1 o2 o3 o4,Pu z2.P (upd (upd (upd (upd z2.P e o1) e o2) e o3) e o4):=λo1 o2 o3 o4=>((((Pu.refl z2.P).put o1 he).put o2 he).put o3 he).put o4 he;exact hX (z2.pu _ (p _ _ _ _)) e (l2.pu _ _) ⟨_,t,num,b,fd,u,aA ..,rfl,p _ _ _ _ _ _ ht,hb⟩
end
end
variable{α:Type}{x y:Str}{d:α}{l:List (Str × α)}
noncomputable def cQ(x:Str)(d:α):List (Str × α)->List (Str × α)
 | []=>[(x,d)]
 | q::r=>if q.1=x then(q.1,d)::r else q::cQ x d r
theorem zc{x:Str}{d:α}{q:Str × α}{r:List (Str × α)}:cQ x d (q::r)=if q.1=x then(q.1,d)::r else q::cQ x d r:=rfl
noncomputable def sj(x:Str)(l:List (Str × α)):List (Str × α):=l.filter λq=>decide (q.1≠x)
theorem nA{q:Str × α}:∀{l:List (Str × α)},(l.map (·.1)).Nodup->q∈cQ x d l->q=(x,d)\/q∈l/\q.1≠x:=by
 intro rr;induction rr with
 | nil=>exactλj h=>.inl (cu h)
 | cons e r ih=>
  intro n h;have n':=dj n;rw[zc] at h;by_cases z:e.1=x
  ·rw[ai z] at h
   exact(ku h).imp (λh=>by rw[h,z]) λh=>⟨.tail _ h,λy=>n'.1 (List.mem_map.mpr ⟨q,h,y.trans z.symm⟩)⟩
  ·rw[aa z] at h
   rcases ku h with h|h
   ·exact .inr ⟨by rw[h];exact .head _,by rw[h];exact z⟩
   ·exact(ih n'.2 h).imp id λy=>⟨.tail _ y.1,y.2⟩
theorem xS:∀{l:List (Str × α)},(l.map (·.1)).Nodup->((cQ x d l).map (·.1)).Nodup:=by
 intro rr;induction rr with
 | nil=>exactλj=>dh ⟨gk,List.nodup_nil⟩
 | cons e r ih=>
  intro h;have h':=dj h;rw[zc];by_cases z:e.1=x
  ·rw[ai z];exact h
  ·rw[aa z]
   refine dh ⟨λm=>?_,ih h'.2⟩;obtain⟨q,hq,e1⟩:=List.mem_map.mp m;rcases nA h'.2 hq with rfl|hq
   ·exact z e1.symm
   ·exact h'.1 (List.mem_map.mpr ⟨q,hq.1,e1⟩)
theorem qo{g g':Str × α->Va}{v:Va}:∀{l:List (Str × α)},(l.map (·.1)).Nodup->g' (x,d)=v->(∀ q∈l,q.1≠x->g' q=g q)->cT x v (l.map λq=>(q.1,g q))=(cQ x d l).map λq=>(q.1,g' q):=by
 intro rr;induction rr with
 | nil=>intro j hv j;show [(x,v)]=[(x,g' (x,d))];rw[hv]
 | cons e r ih=>
  intro h hv hg;have h':=dj h;rw[zc];show(if e.1=x then(e.1,v)::_ else(e.1,g e)::cT x v (r.map λq=>(q.1,g q)))=_;by_cases z:e.1=x
  ·rw[ai z,ai z,gn]
   rw[jy (l:=r) (f:=λq=>(q.1,g q)) (g:=λq=>(q.1,g' q)) λq hq=>by rw[hg q (.tail _ hq) λn=>h'.1 (List.mem_map.mpr ⟨q,hq,n.trans z.symm⟩)],<-hv,z]
  ·rw[aa z,aa z,gn,hg e (.head _) z,ih h'.2 hv λq hq=>hg q (.tail _ hq)]
theorem Df{g:Str × α->Va}:uR x (l.map λq=>(q.1,g q))=(sj x l).map λq=>(q.1,g q):=by unfold uR sj;rw[List.filter_map];rfl
theorem Es(h:(l.map (·.1)).Nodup):((sj x l).map (·.1)).Nodup:=List.Nodup.sublist (List.Sublist.map _ (List.filter_sublist ..)) h
theorem pU{q:Str × α}(h:q∈sj x l):q∈l:=(d9 h).1
noncomputable def Cont.upd(C:Cont)(i:Nat)(o:Co):Cont:={ C with c:=λj=>if j=i then o else C.c j }
noncomputable def Cont.setM(C:Cont)(i:Nat)(mt:List (Str × Ent)):Cont:=C.upd i { C.c i with mt:=mt }
section
variable{w:Wc}{C C':Cont}{S:List Nat}{i:Nat}{e:Ad}{d:Ent}{r:ya}{o:Co}{mt:List (Str × Ent)}
theorem fX:(C.upd i o).c i=o:=ai rfl
theorem dG{j:Nat}(h:j≠i):(C.upd i o).c j=C.c j:=aa h
theorem tD(h:∀ j,(C'.c j).mx=(C.c j).mx/\(C'.c j).ah=(C.c j).ah):∀ k i,jJ C' k i=jJ C k i:=by
 intro rr;induction rr with
 | zero=>exactλq=>rfl
 | succ k ih=>
  intro i;show eG C' _ i=eG C _ i;unfold eG mG;rw[(h i).1,(h i).2];cases par i with
  | none=>rfl
  | some p=>dsimp only;rw[ih p]
theorem eU(j:Nat):((C.setM i mt).c j).mx=(C.c j).mx/\((C.setM i mt).c j).ah=(C.c j).ah/\((C.setM i mt).c j).ct=(C.c j).ct:=by
 by_cases q:j=i
 ·subst q;unfold Cont.setM;rw[fX];exact⟨rfl,rfl,rfl⟩
 ·unfold Cont.setM;rw[dG q];exact⟨rfl,rfl,rfl⟩
theorem jQ.setM(W:jQ C)(hi:¬ (i<12\/15<i/\i<19))(hn:(mt.map (·.1)).Nodup/\∀ q∈mt,q.1∈bH):jQ (C.setM i mt) where
 base:=λj h=>by rw[(eU j).1,(eU j).2.1,(eU j).2.2];exact W.base j h
 Br:=λj h=>by unfold Cont.setM;rw[dG λq=>hi (by subst q;exact h)];exact W.Br j h
 us:=λj=>by rw[(eU j).1,(eU j).2.1];exact W.us j
 u5:=λj=>by rw[(eU j).1,(eU j).2.1];exact W.u5 j
 nd:=λj=>by
  by_cases q:j=i
  ·subst q;unfold Cont.setM;rw[fX];exact hn
  ·unfold Cont.setM;rw[dG q];exact W.nd j
 nc:=λj=>by rw[(eU j).2.2];exact W.nc j
theorem Fd(j:Nat):refsOf (C.setM i mt) j=refsOf C j:=by unfold refsOf;rw[(eU j).1,(eU j).2.1];rfl
theorem Core.setM{P P':PH}{A:k9}{h h':eO}{n:Nm}{kp:Nat->Kp}{k:Kp}(K:Core w C [] P A h n kp)(ha:A.ad i=some a)(W:jQ (C.setM i mt))
  (hP:∀ c,c≠(kp i).md->P' c=P c) (hh:∀ c t,h c=some t->h' c=some t) (hs:∀ c t,h' c=some t->∃ o,P' c=some o/\o.bR=false)
  (hk:k={ kp i with tg:=k.tg,ea:=k.ea,er:=k.er }) (hm:P' (kp i).md=some (.dict k.tg (mt.map λq=>(q.1,.ref (k.ea q.1))))) (he:∀ q∈mt,P' (k.ea q.1)=some (.inst 256 (sZ q.2 (k.er q.1)))/\h' (k.ea q.1)=some (9,99)):
  Core w (C.setM i mt) [] P' A h' n (λj=>if j=i then k else kp j):=
 have M:=K.mod i a ha nn;have na:∀{c t o},h c=some t->t≠(1,i)->P c=some o->P' c=some o:=λq r p=>(hP _ λx=>r (by subst x;exact kr (q.symm.trans M.om))).trans p
 K.chg ha (λc o t q r s p l=>⟨na q (λe=>r (by rw[e])) p,hh _ _ q⟩) (na K.oW eW K.W) (hh _ _ K.oW) hs
  (λj q=>⟨dG q,rfl⟩) rfl W (eu _) (eu _) rfl (λj y y=>tD (λj=>⟨(eU j).1,(eU j).2.1⟩) 12 j) (by rw[Fd];exact K.ref i a ha nn) K.lk
  (by
   rw[hk];exact {
       at_:=na M.oa eW M.at_,fd:=na M.of eW M.fd
       md:=by rw[show(C.setM i mt).c i=_ from fX];exact hm
       cd:=by rw[(eU i).2.2];exact na M.oc eW M.cd
       xd:=by rw[(eU i).1];exact na M.ox eW M.xd
       ad:=by rw[(eU i).2.1];exact na M.od eW M.ad
       ent:=λq hq=>by rw[show(C.setM i mt).c i=_ from fX] at hq;exact he q hq
       kp:=λkt kl v ln e=>
        have k:=M.kp kt kl v ln e
        ⟨⟨na k.1.2.2.1 eW k.1.1,na k.1.2.2.2 eW k.1.2.1,hh _ _ k.1.2.2.1,hh _ _ k.1.2.2.2⟩,k.2.1,λe=>(k.2.2.1 e).trans (tD (λj=>⟨(eU j).1,(eU j).2.1⟩) 12 i).symm,k.2.2.2⟩
       oa:=hh _ _ M.oa,of:=hh _ _ M.of,om:=hh _ _ M.om,oc:=hh _ _ M.oc,ox:=hh _ _ M.ox,od:=hh _ _ M.od })
noncomputable def Z.setM(z:Z w C [])(ha:z.A.ad i=some a)(hi:¬ (i<12\/15<i/\i<19))(hx:x∈bH)(he:z.P e=some (.inst 256 (sZ d r)))(ue:z.h e=none):Z w (C.setM i (cQ x d (C.c i).mt)) [] where
 P:=upd z.P (z.kp i).md (.dict (0,0) (cT x (.ref e) ((C.c i).mt.map λq=>(q.1,.ref ((z.kp i).ea q.1)))))
 A:=z.A
 h:=eN z.h e (9,99)
 n:=z.n
 kp:=λj=>if j=i then { z.kp i with tg:=(0,0),ea:=λy=>if y=x then e else(z.kp i).ea y,er:=λy=>if y=x then r else(z.kp i).er y } else z.kp j
 K:=
  have K:=z.K;have M:=K.mod i a ha nn;have nd:=K.wf.nd i;have ne:e≠(z.kp i).md:=λq=>by rw[q,M.om] at ue;cases ue
  K.setM ha (K.wf.setM hi ⟨xS nd.1,λq hq=>(nA nd.1 hq).elim (λh=>by rw[h];exact hx) λh=>nd.2 q h.1⟩) (λc q=>aD q) (λc t q=>aY ue q)
   (λc t q=>stand rfl (by
    by_cases y:c=e
    ·exact⟨_,y▸he,rfl⟩
    ·rw[aM y] at q;exact K.ry c t q)) rfl
   ((aA ..).trans (aj (λv=>some (PO.dict (0,0) v)) (qo (g:=λq=>.ref ((z.kp i).ea q.1)) (g':=λq=>.ref (if q.1=x then e else(z.kp i).ea q.1)) nd.1 (aj Value.ref (ai rfl)) λq u n=>aj Value.ref (aa n))))
   (λq hq=>by
    have un:∀{c o},z.P c=some (.inst 256 o)->upd z.P (z.kp i).md (.dict (0,0) (cT x (.ref e) ((C.c i).mt.map λq=>(q.1,.ref ((z.kp i).ea q.1))))) c=some (.inst 256 o):=λp=>(aD λy=>by rw[y,M.md] at p;cases p).trans p;show upd z.P _ _ (if q.1=x then e else _)=some (.inst 256 (sZ q.2 (if q.1=x then r else _)))/\eN z.h e (9,99) (if q.1=x then e else _)=_;rcases nA nd.1 hq with h|⟨hm,y⟩
    ·rw[h,ai rfl,ai rfl];exact⟨un he,bX ..⟩
    ·rw[aa y,aa y];exact⟨un (M.ent q hm).1,aY ue (M.ent q hm).2⟩)
theorem Le.setM{w':Wc}{C':Cont}{S':List Nat}{z0:Z w' C' S'}{z:Z w C []}(l:Le z0 z)(ha:z.A.ad i=some a)(hi:¬ (i<12\/15<i/\i<19))(hx:x∈bH)(he:z.P e=some (.inst 256 (sZ d r)))(ue:z.h e=none)(ne:Nw z0 e):Le z0 (z.setM ha hi hx he ue):=⟨λc o q r k=>
 have y:=l.fr c o q r k
 ⟨(aD λx=>by
  rw[<-y.2,x,(z.K.mod i a ha nn).om] at k;rcases k with k|⟨t,k⟩<;>cases k
  exact absurd (z.K.le _ a ha).2 ()).trans y.1,(aM λx=>by subst x;exact ne o q r k).trans y.2⟩,l.ad⟩
noncomputable def Z.sq(z:Z w C [])(ha:z.A.ad i=some a)(hi:¬ (i<12\/15<i/\i<19))(x:Str):Z w (C.setM i (sj x (C.c i).mt)) [] where
 P:=upd z.P (z.kp i).md (.dict (0,0) (uR x ((C.c i).mt.map λq=>(q.1,.ref ((z.kp i).ea q.1)))))
 A:=z.A
 h:=z.h
 n:=z.n
 kp:=λj=>if j=i then { z.kp i with tg:=(0,0),ea:=(z.kp i).ea,er:=(z.kp i).er } else z.kp j
 K:=
  have K:=z.K;have M:=K.mod i a ha nn;have nd:=K.wf.nd i
  K.setM ha (K.wf.setM hi ⟨Es nd.1,λq hq=>nd.2 q (pU hq)⟩) (λc q=>aD q) (λc t q=>q) (λc t q=>stand rfl (K.ry c t q)) rfl
   ((aA ..).trans (aj (λv=>some (PO.dict (0,0) v)) (Df (g:=λq=>.ref ((z.kp i).ea q.1)))))
   λq hq=>⟨(aD λy=>by have p:=(M.ent q (pU hq)).1;rw[y,M.md] at p;cases p).trans (M.ent q (pU hq)).1,(M.ent q (pU hq)).2⟩
theorem Le.sq{w':Wc}{C':Cont}{S':List Nat}{z0:Z w' C' S'}{z:Z w C []}(l:Le z0 z)(ha:z.A.ad i=some a)(hi:¬ (i<12\/15<i/\i<19))(x:Str):Le z0 (z.sq ha hi x):=⟨λc o q r k=>
 have y:=l.fr c o q r k
 ⟨(aD λx=>by
  rw[<-y.2,x,(z.K.mod i a ha nn).om] at k;rcases k with k|⟨t,k⟩<;>cases k
  exact absurd (z.K.le _ a ha).2 ()).trans y.1,y.2⟩,l.ad⟩
end
section
theorem sB{a b:Str}{k:Nat}(h:a.length<=100*k)(h':b.length<=100):(a++b).length<=100*(k+1):=by have:(a++b).length=a.length+b.length:=Array.size_append;lia
theorem lB{a:Str}{k:Nat}(h:a.length<=100*k)(hk:k.ble 900=true):a.length<big:=k6 h (k6 (Nat.mul_le_mul_left 100 (bl hk)) ())
theorem vS{a b:Str}{k:Nat}{R:Prop}(h:a.length<=100*k)(hk:k.ble 900=true)(h':b.length<=100)(hq:(a++b).length<=100*(k+1)->R):(a.length<big/\b.length<big)/\R:=⟨⟨lB h hk,lB (k:=1) h' rfl⟩,hq (sB h h')⟩
theorem K3:bO 256 21=some 253/\bL 21=none:=⋯
section
variable{m:Nat}{X:XP}{Q:VQ}{P0:PH}{nm ow so bo si:Va}{e0:Ad}{d:Ent}{r:ya}{s:Str}{b:Ad}
theorem sV(hq:∀ P' e t,Pu P0 P'->P0 e=none->P' e=some (.inst 256 [(6,nm),(1,ow),(21,so),(22,.none),(23,bo),(24,si),(25,.ref t),(26,.none)])->Q (.ref e) P'):
  ∀ a,P0 a=none->Calls (m+1) 245 [.ref a,nm,ow,so,.none,bo,si] (upd P0 a (.inst 256 [])) X λv P'=>v=.none/\Q (.ref a) P':=λa ha=>by refine aB 8 rfl rfl rfl (bQ (aA ..) rfl (cZ rfl) (bQ (aA ..) rfl (cZ rfl) (bQ (aA ..) rfl (cZ rfl) (bQ (aA ..) rfl (cZ rfl) (bQ (aA ..) rfl (cZ rfl) (bQ (aA ..) rfl (cZ rfl) ⟨bl,λt ht=>bQ (aI (aA ..) ht) rfl (cZ rfl) (bQ (aA ..) rfl (cZ rfl) ⟨rfl,hq _ a t ?_ ha (aA ..)⟩)⟩))))));exact((((((((((Pu.refl P0).put _ ha).put _ ha).put _ ha).put _ ha).put _ ha).put _ ha).put _ ha).new _ ht).put _ ha).put _ ha
theorem vg{l3:Va}{v6:Op Va}(h0:P0 e0=some (.inst 256 (sZ d r)))(hs:(l3=.none/\si=.str (Uj d) 0)\/∃ t,l3=.str t 0/\si=.str t 0)
  (hq:∀ P' e,Pu P0 P'->P0 e=none->P' e=some (.inst 256 [(6,nm),(1,ow),(21,.str (Tc d) 0),(22,.none),(23,S9 d),(24,si),(25,.ref r.nt),(26,.none)])->Q (.ref e) P'):
  wpS (m+2) (fF 6) fM [some (.ref e0),some nm,some ow,some l3,none,none] P0 X (λq P'=>Q .none P') Q:=by
 refine aG h0 rfl rfl rfl (aG h0 rfl rfl rfl (aG h0 rfl rfl (by cases d<;>rfl) ?_));have fin:∀ a,P0 a=none->Calls (m+1) 245 [.ref a,nm,ow,.str (Tc d) 0,.none,S9 d,si] (upd P0 a (.inst 256 [])) X λv P'=>v=.none/\wpS (m+2) (fF 6) (bV 1 fM) [some (.ref e0),some nm,some ow,some l3,some (.ref a),none] P' X (λq P'=>Q .none P') Q:=sV (Q:=λv P'=>wpS (m+2) (fF 6) (bV 1 fM) [some (.ref e0),some nm,some ow,some l3,some v,none] P' X (λq P'=>Q .none P') Q) λP' e t p f h=>aG (v:=.ref r.nt) (p _ _ h0) rfl rfl rfl (bQ h rfl (cZ rfl) (aG (v:=.none) ((p.put _ f) _ _ h0) rfl rfl rfl (bQ (aA ..) rfl (cZ rfl) (hq _ e ((p.put _ f).put _ f) f (aA ..)))));rcases hs with⟨rfl,rfl⟩|⟨t,rfl,rfl⟩
 ·exact⟨rfl,aG h0 rfl rfl rfl fin⟩
 ·exact⟨rfl,fin⟩
theorem Km(h0:P0 e0=some (.inst 256 (sZ d r)))(hq:∀ P' e,Pu P0 P'->P0 e=none->P' e=some (.inst 256 (sZ d ⟨x,b,r.nt⟩))->Q (.ref e) P'):Calls (m+3) 253 [.ref e0,.str x 0,.ref b] P0 X Q:=aB 9 rfl rfl rfl (vg (v6:=none) h0 (.inl ⟨rfl,rfl⟩) hq)
theorem zT{q:Int × Str}(h0:P0 e0=some (.inst 256 (sZ (some q) r)))(hq:∀ P' e,Pu P0 P'->P0 e=none->P' e=some (.inst 256 (sZ (some (q.1,s)) ⟨r.nm,r.ow,r.nt⟩))->Q (.ref e) P'):Calls (m+4) 593 [.ref e0,.str s 0] P0 X Q:=aB 42 rfl rfl rfl (aU h0 K3.1 (by rw[K3.2];trivial) (aG (v:=.str r.nm 0) h0 rfl rfl rfl (aG (v:=.ref r.ow) h0 rfl rfl rfl (aB 10 rfl rfl rfl (vg (v6:=none) h0 (.inr ⟨s,rfl,rfl⟩) hq)))))
end
section
variable{m:Nat}{X:XP}{Q:VQ}{w:Wc}{C:Cont}{i:Nat}{e:Ad}{s:Str}{d:Ent}{r:ya}
theorem eE(z:Z w C [])(ha:z.A.ad i=some a)(hq:Q .none z.P):Calls (m+1) 537 [.ref w.W,.ref a] z.P X Q:=aB 34 rfl rfl rfl (aG (v:=.bool false) (z.at_ ha nn) rfl rfl rfl hq)
theorem ze(z:Z w C [])(i:Nat)(g:Str × Ent->Str × Va):((C.c i).mt.map g).length<big:=k6 (fu (gi (ef ..)) (z.K.wf.Iv i)) ()
noncomputable def Z.mJ(z:Z w C [])(ha:z.A.ad i=some a)(hi:¬ (i<12\/15<i/\i<19))(hx:x∈bH)(he:z.P e=some (.inst 256 (sZ d r)))(ue:z.h e=none):Z w (C.setM i (cQ x d (C.c i).mt)) []:=(z.setM ha hi hx he ue).gZ z.n.N (z.n.V+1) z.n.cv (eu _) (g5 (eu _))
theorem yl(z:Z w C [])(ha:z.A.ad i=some a)(hi:¬ (i<12\/15<i/\i<19))(hx:x∈bH)(he:z.P e=some (.inst 256 (sZ d r)))(ue:z.h e=none)(hq:Q .none (z.mJ ha hi hx he ue).P):Calls (m+2) 558 [.ref w.W,.ref a,.str x 0,.ref e] z.P X Q:=aB 37 rfl rfl rfl (eE z ha (aG (v:=.ref (z.kp i).md) (z.at_ ha nn) rfl rfl rfl (cW (z.K.mod i a ha nn).md (ze z i _) (fO (z.setM ha hi hx he ue) hq))))
theorem zV(z:Z w C [])(ha:z.A.ad i=some a)(hi:¬ (i<12\/15<i/\i<19))(hx:r.nm∈bH)(he:z.P e=some (.inst 256 (sZ d r)))(ue:z.h e=none)(hq:Q .none (z.mJ ha hi hx he ue).P):Calls (m+2) 551 [.ref w.W,.ref a,.ref e] z.P X Q:=aB 36 rfl rfl rfl (eE z ha (aG (v:=.ref (z.kp i).md) (z.at_ ha nn) rfl rfl rfl (aG (v:=.str r.nm 0) he rfl rfl rfl (cW (z.K.mod i a ha nn).md (ze z i _) (fO (z.setM ha hi hx he ue) hq)))))
theorem Le.mJ{w':Wc}{C':Cont}{S':List Nat}{z0:Z w' C' S'}{z:Z w C []}(l:Le z0 z)(ha:z.A.ad i=some a)(hi:¬ (i<12\/15<i/\i<19))(hx:x∈bH)(he:z.P e=some (.inst 256 (sZ d r)))(ue:z.h e=none)(ne:Nw z0 e):Le z0 (z.mJ ha hi hx he ue):=(l.setM ha hi hx he ue ne).gZ _ _
theorem lW(z:Z w C [])(ha:z.A.ad i=some a)(h1:gU i=none)(h2:qC i=none)(h3:gJ i=true)(hq:Q (.str "#<Class>" 0) z.P):Calls (m+1) 315 [.ref a] z.P X Q:=aB 14 rfl rfl rfl (aG (v:=.none) (z.at_ ha nn) rfl (by show some (z.A.rf (gU i))=_;rw[h1];rfl) rfl ⟨rfl,aG (v:=.none) (z.at_ ha nn) rfl (by show some (jB (qC i))=_;rw[h2];rfl) rfl ⟨rfl,aG (v:=.bool true) (z.at_ ha nn) rfl (by show some (Value.bool (gJ i))=_;rw[h3]) rfl hq⟩⟩)
structure zK(i:Nat):Prop where
 hi:¬ (i<12\/15<i/\i<19)
 gU:gU i=none
 qC:qC i=none
 gJ:gJ i=true
 nat:nat i=none
theorem zK.of(h:i=12\/i=13\/i=14):zK i:=by rcases h with rfl|rfl|rfl<;>exact⟨(),rfl,rfl,rfl,rfl⟩
theorem kK(z:Z w C [])(ha:z.A.ad i=some a)(U:zK i)(hl:x.length<=100)(hq:∀(z':Z w C []) q e r,Gr z z'->aW C i x=some q->z'.P e=some (.inst 256 (sZ (some q) r))->z'.h e=some (9,99)->Q (.ref e) z'.P)(hX:aW C i x=none->∀(z':Z w C []) e,Le z z'->w6 z' e->X e z'.P):
  Calls (m+34) 572 [.ref w.W,.ref a,.str x 0] z.P X Q:=by
 refine aB 39 rfl rfl rfl (ye z ha λz1 v l1 hv=>?_);cases q:aW C i x with
 | some d=>rw[q] at hv;obtain⟨e,r,rfl,h1,h2⟩:=hv;exact⟨rfl,rfl,hq z1 d e r l1 q h1 h2⟩
 | none=>
  rw[q] at hv;have hv:v=.none:=hv;subst hv;have ha1:z1.A.ad i=some a:=by rw[l1.A];exact ha
  have le:∀{s:Str},s.length.ble 100=true->s.length<=100:=λh=>bl h;refine⟨rfl,aG (v:=.bool true) (z1.at_ ha1 nn) rfl (by show some (Value.bool (gJ i))=_;rw[U.gJ]) rfl ⟨rfl,aU z1.K.W EY.1 (by rw[EY.2];trivial) (vS (k:=1) (le rfl) rfl hl λb2=>vS b2 rfl (le rfl) λb3=>aB 38 rfl rfl rfl (aG (v:=.bool true) (z1.at_ ha1 nn) rfl (by show some (Value.bool (gJ i))=_;rw[U.gJ]) rfl (vS b3 rfl (le rfl) λb4=>vS b4 rfl (le rfl) λb5=>lW z1 ha1 U.gU U.qC U.gJ (vS b5 rfl (le rfl) λb6=>vS b6 rfl (le rfl) λj=>BJ z1 λz2 e l2 hE=>hX q z2 e (l1.le.trans l2) hE))))⟩⟩
end
end
section
variable{m:Nat}{X:XP}{Q:VQ}{w:Wc}{C:Cont}{i:Nat}{e l:Ad}{s:Str}{d:Ent}{r:ya}{P0:PH}{v0:Va}
theorem fV(hq:Q (.str x 0) P0):Calls (m+1) 375 [v0,.str x 0] P0 X Q:=aB 15 rfl rfl rfl hq
def Raises(z:Z w C [])(X:XP):Prop:=∀(z':Z w C []) e,Le z z'->w6 z' e->X e z'.P
def Ends(z:Z w C [])(C':Cont)(R:PH->Prop):Prop:=∀(z':Z w C' []),Le z z'->z'.A=z.A->R z'.P
theorem qa(hx:x∈bH):x.length<=100:=(by decide +kernel:∀ x∈bH,x.length<=100) x hx
theorem BO(z:Z w C [])(ha:z.A.ad i=some a)(U:zK i)(hx:x∈bH)(hq:∀ q,aW C i x=some q->Ends z (C.setM i (cQ x none (C.c i).mt)) (Q .none))(hX:aW C i x=none->Raises z X):
  Calls (m+35) 579 [.ref w.W,.ref a,.str x 0] z.P X Q:=
 aB 40 rfl rfl rfl (kK z ha U (qa hx) (λz1 q e r l1 hf j j=>sV (Q:=λv P'=>Calls (m+34) 558 [.ref w.W,.ref a,.str x 0,v] P' X λj P'=>Q .none P') λP2 e t p2 f2 h2=>
  have ha1:z1.A.ad i=some a:=l1.A▸ha;have he:(z1.pu P2 p2).P e=some (.inst 256 (sZ none ⟨x,a,t⟩)):=h2
  yl (m:=m+32) (z1.pu P2 p2) ha1 U.hi hx he (z1.un f2) (hq q hf _ ((l1.le.pu P2 p2).mJ ha1 U.hi hx he (z1.un f2) ((Nw.none z1 f2).of l1.le)) l1.A)) hX)
theorem Kg(z:Z w C [])(ha:z.A.ad i=some a)(U:zK i)(hx:x∈bH)(hy:y∈bH)(hq:∀ q,aW C i y=some q->Ends z (C.setM i (cQ x (some q) (C.c i).mt)) (Q .none))(hX:aW C i y=none->Raises z X):
  Calls (m+35) 600 [.ref w.W,.ref a,.str x 0,.str y 0] z.P X Q:=
 aB 43 rfl rfl rfl (kK z ha U (qa hy) (λz1 q e r l1 hf h1 j=>aG (v:=.str q.2 0) h1 rfl rfl rfl (zT (m:=m+30) h1 λP2 e p2 f2 h2=>
  have ha1:z1.A.ad i=some a:=l1.A▸ha
  yl (m:=m+32) (z1.pu P2 p2) ha1 U.hi hx (d:=some q) h2 (z1.un f2) (hq q hf _ ((l1.le.pu P2 p2).mJ ha1 U.hi hx h2 (z1.un f2) ((Nw.none z1 f2).of l1.le)) l1.A))) hX)
theorem Aa(z:Z w C [])(ha:z.A.ad i=some a)(U:zK i)(hx:x∈bH)(hl:z.P l=some (.list t [.str x 0]))(ul:z.h l=none)
  (hq:∀ q,aW C i x=some q->Ends z (if q.2≠s\/(C.c i).mt.lookup x=none then C.setM i (cQ x (some (q.1,s)) (C.c i).mt) else C) (Q .none)) (hX:aW C i x=none->Raises z X):
  Calls (m+35) 607 [.ref w.W,.ref a,.ref l,.str s 0] z.P X Q:=by
 refine aB 44 rfl rfl rfl (cO hl bl (kK z ha U (qa hx) (λz1 q e r l1 hf h1 j=>aG (v:=.str q.2 0) h1 rfl rfl rfl ?_) hX));have ha1:z1.A.ad i=some a:=l1.A▸ha;have pl:q.2≠s\/(C.c i).mt.lookup x=none->∀(P2:PH) (p2:Pu z1.P P2),wpS (m+34) (fF 10) (.seq (.expr (.call 558 (.cons (.loc 0) (.cons (.loc 1) (.cons (.loc 4) (.cons (.call 593 (.cons (.loc 5) (.cons (.loc 3) .nil))) .nil)))))) .skip) (some (.ref w.W)::some (.ref a)::some (.ref l)::some (.str s 0)::some (.str x 0)::some (.ref e)::nN 4) P2 X (λj P'=>P' l=some (.list t [.str x 0])/\Q .none P') λv P'=>Q v P':=λhc P2 p2=>by refine zT (m:=m+30) (p2 _ _ h1) λP3 f p3 f3 h3=>?_;have p23:=p2.trans p3;have ff:=p2.un f3;have L:=(l1.le.pu P3 p23).mJ ha1 U.hi hx h3 (z1.un ff) ((Nw.none z1 ff).of l1.le);refine yl (m:=m+32) (z1.pu P3 p23) ha1 U.hi hx h3 (z1.un ff) ⟨(L.fr l _ hl rfl (.inl ul)).1,?_⟩;have hq:=hq q hf;rw[ai hc] at hq;exact hq _ L l1.A
 have sk:¬ (q.2≠s\/(C.c i).mt.lookup x=none)->∀(P2:PH) (p2:Pu z1.P P2),P2 l=some (.list t [.str x 0])/\Q .none P2:=λhc P2 p2=>by have hq:=hq q hf;rw[aa hc] at hq;exact⟨((l1.le.pu P2 p2).fr l _ hl rfl (.inl ul)).1,hq (z1.pu P2 p2) (l1.le.pu P2 p2) l1.A⟩
 by_cases c1:q.2=s
 ·refine bf (by rw[au c1];rfl) (oM (m:=m+32) z1 ha1 (Pu.refl _) λP2 p2=>⟨jK _,?_⟩)
  cases c2:(C.c i).mt.lookup x with
  | none=>exact pl (.inr c2) P2 p2
  | some d=>exact sk (λh=>h.elim (λh=>h c1) λh=>by rw[c2] at h;cases h) P2 p2
 ·exact bt (by rw[av c1];rfl) (pl (.inl c1) z1.P (Pu.refl _))
theorem GU(z:Z w C [])(ha:z.A.ad i=some a)(U:zK i)(hx:x∈bH)(hq:∀ q,(C.c i).mt.lookup x=some (some q)->Ends z (C.setM i (sj x (C.c i).mt)) (Q .none))(hX:(C.c i).mt.lookup x=none\/(C.c i).mt.lookup x=some none->Raises z X):
  Calls (m+35) 586 [.ref w.W,.ref a,.str x 0] z.P X Q:=by
 refine aB 41 rfl rfl rfl (oM (m:=m+32) z ha (Pu.refl _) λP1 p1=>⟨jK _,?_⟩);let z1:=z.pu P1 p1;have l1:Le z z1:=(Le.refl z).pu P1 p1;have le:∀{s:Str},s.length.ble 100=true->s.length<=100:=λh=>bl h;have bad:∀{N:NP} {v3:Va},Raises z X->wpS (m+34) (fF 10) (match Bo with|.seq _ (.seq (.bF _ u _) _)=>u|_=>.skip) (some (.ref w.W)::some (.ref a)::some (.str x 0)::some v3::nN 6) P1 X N Q:=λhR=>aU z1.K.W EY.1 (by rw[EY.2];trivial) (vS (k:=1) (le rfl) rfl (qa hx) λb2=>vS b2 rfl (le rfl) λb3=>lW z1 ha U.gU U.qC U.gJ (vS b3 rfl (le rfl) λj=>BJ z1 λz2 e l2 hE=>hR z2 e (l1.trans l2) hE));cases q:(C.c i).mt.lookup x with
 | none=>exact bad (hX (.inl q))
 | some d=>
  have me:=(z1.K.mod i a ha nn).ent _ (yS q);refine aG me.1 rfl rfl rfl ?_;cases d with
  | none=>exact bad (hX (.inr q))
  | some q'=>refine eE (m:=m+33) z1 ha (aG (v:=.none) (z1.at_ ha nn) rfl (by show some (jB (nat i))=_;rw[U.nat];rfl) rfl ⟨rfl,aG (v:=.ref (z.kp i).md) (z1.at_ ha nn) rfl rfl rfl ⟨mu (z1.K.mod i a ha nn).md,RE (z1.K.mod i a ha nn).md (ze z i _) (by rw[Cg,q];rfl) (fO (z1.sq ha U.hi x) ?_)⟩⟩);exact hq q' q _ ((l1.sq ha U.hi x).gZ _ _) rfl
end
theorem sX:∀ l∈oh,∀ j∈([15,16]:List Nat),l.contains j=false->l++[j]∈oh:=⋯
theorem gB{l:List Nat}(h:l∈oh):l∈NO:=fh _ h
section
variable{w:Wc}{C:Cont}{i j:Nat}{b:Ad}{o:Co}
theorem Sd{i k:Nat}(hi:i=12\/i=13\/i=14)(h:¬(k=12\/k=13\/k=14)):i≠k:=λe=>h (e▸hi)
theorem To{i:Nat}(hi:i=12\/i=13\/i=14):12<=i:=hi.elim (λe=>e▸f7 _) λh=>h.elim (λe=>e▸bl) λe=>e▸bl
theorem jQ.LP(W:jQ C)(hi:i=12\/i=13\/i=14)(h1:o.mt=(C.c i).mt)(h2:o.ct=(C.c i).ct)(h3:o.mx∈oh)(h4:o.ah∈oh):jQ (C.upd i o) where
 base:=λj h=>by rw[dG λq=>by lia];exact W.base j h
 Br:=λj h=>by rw[dG λq=>by lia];exact W.Br j h
 us:=λj=>by
  by_cases q:j=i
  ·subst q;rw[fX];exact⟨gB h3,gB h4⟩
  ·rw[dG q];exact W.us j
 u5:=λj=>by
  by_cases q:j=i
  ·subst q;rw[fX];exactλy=>⟨h3,h4⟩
  ·rw[dG q];exact W.u5 j
 nd:=λj=>by
  by_cases q:j=i
  ·subst q;rw[fX,h1];exact W.nd j
  ·rw[dG q];exact W.nd j
 nc:=λj=>by
  by_cases q:j=i
  ·subst q;rw[fX,h2];exact W.nc j
  ·rw[dG q];exact W.nc j
noncomputable def Z.LP(z:Z w C [])(ha:z.A.ad i=some a)(hi:i=12\/i=13\/i=14)(h1:o.mt=(C.c i).mt)(h2:o.ct=(C.c i).ct)(h3:o.mx∈oh)(h4:o.ah∈oh)(hx:∀ y,y∈o.mx\/y∈o.ah->∃ b,z.A.ad y=some b)(P':PH)
  (hW:P' w.W=some (.inst 1055 (sN w { z.n with V:=z.n.V+1 }))) (hxd:P' (z.kp i).xd=some (.list (0,0) (z.A.dB o.mx))) (had:P' (z.kp i).ad=some (.list (0,0) (z.A.dB o.ah))) (hP:∀ c t,z.h c=some t->t≠(3,i)->t≠(4,i)->t≠(5,50)->P' c=z.P c) (hs:∀ c t,z.h c=some t->∃ o,P' c=some o/\o.bR=false):Z w (C.upd i o) [] where
 P:=P'
 A:=z.A
 h:=z.h
 n:={ z.n with V:=z.n.V+1 }
 kp:=λy=>if y=i then z.kp i else z.kp y
 K:=
  have K:=z.K;have M:=K.mod i a ha nn;have l50:i≠50:=Sd hi ();have l99:i≠99:=Sd hi ();have g:∀{c t p},z.h c=some t->t≠(3,i)->t≠(4,i)->t≠(5,50)->z.P c=some p->P' c=some p:=λq r s t p=>(hP _ _ q r s t).trans p
  K.chg ha (λc p t q r s e j=>⟨g q (λy=>r (by rw[y])) (λy=>r (by rw[y])) s e,q⟩) hW K.oW
   hs
   (λy q=>⟨dG q,rfl⟩) rfl (K.wf.LP hi h1 h2 h3 h4) (g5 (eu _)) (eu _) rfl (λj j e=>absurd e (Int.ne_of_gt (Int.lt_succ z.n.V)))
   (λy hy=>by
    unfold refsOf at hy;rw[fX] at hy;rcases ku hy with h|h
    ·exact K.ref i a ha nn y (by rw[h];exact tG ..)
    ·rcases cy h with h|h
     ·rcases cy h with h|h
      ·rcases cy h with h|h
       ·rcases cy h with h|h
        ·exact K.ref i a ha nn y (iL h)
        ·exact K.ref i a ha nn y (yQ h)
       ·exact hx y (.inl h)
      ·exact hx y (.inr h)
     ·exact K.ref i a ha nn y (jd _ (fq _ h))) K.lk
   {at_:=g M.oa eW eW eW M.at_,fd:=g M.of eW eW (λe=>l50 (aj Prod.snd e)) M.fd
    md:=by rw[fX,h1];exact g M.om eW eW eW M.md
    cd:=by rw[fX,h2];exact g M.oc eW eW eW M.cd
    xd:=by rw[fX];exact hxd
    ad:=by rw[fX];exact had
    ent:=λq hq=>by rw[fX,h1] at hq;exact⟨g (M.ent q hq).2 eW eW eW (M.ent q hq).1,(M.ent q hq).2⟩
    kp:=λkt kl v ln e=>
     have k:=M.kp kt kl v ln e
     ⟨⟨g k.1.2.2.1 eW eW eW k.1.1,g k.1.2.2.2 eW eW eW k.1.2.1,k.1.2.2⟩,jt k.2.1 (g5 (eu _)),λe=>absurd k.2.1 (by rw[e];exact Int.not_le.mpr (Int.lt_succ z.n.V)),k.2.2.2⟩
    oa:=M.oa,of:=M.of,om:=M.om,oc:=M.oc,ox:=M.ox,od:=M.od }
noncomputable def Co.vU(o:Co)(way:Bool)(j:Nat):Co:=if way then { o with ah:=o.ah++[j] } else { o with mx:=o.mx++[j] }
noncomputable def Co.X(o:Co)(way:Bool):List Nat:=if way then o.ah else o.mx
noncomputable def Z.vU(z:Z w C [])(ha:z.A.ad i=some a)(hi:i=12\/i=13\/i=14)(hb:z.A.ad j=some b)(hj:j∈([15,16]:List Nat))(way:Bool)(hn:((C.c i).X way).contains j=false):Z w (C.upd i ((C.c i).vU way j)) []:=
 have M:=z.K.mod i a ha nn;have u:=z.K.wf.u5 i (To hi);have ex:∀ y,y∈(C.c i).mx\/y∈(C.c i).ah->∃ b,z.A.ad y=some b:=λy h=>h.elim (λh=>z.K.ref i a ha nn y (u7 h)) λh=>z.K.ref i a ha nn y (u6 h)
 match way,hn with
 | false,hn=>z.LP ha hi rfl rfl (sX _ u.1 j hj hn) u.2 (λy h=>h.elim (λh=>(cy h).elim (λh=>ex y (.inl h)) λh=>⟨b,by rw[cu h];exact hb⟩) λh=>ex y (.inr h))
   (upd (upd z.P (z.kp i).xd (.list (0,0) (z.A.dB (C.c i).mx++[.ref b]))) w.W (.inst 1055 (sN w { z.n with V:=z.n.V+1 }))) (aA ..)
   ((aD λe=>by have:=M.ox;rw[e,z.K.oW] at this;cases this).trans ((aA ..).trans (by rw[<-aQ hb];exact aj (λv=>some (PO.list (0,0) v)) (kW (A:=z.A) (C.c i).mx [j]))))
   ((aD λe=>by have:=M.od;rw[e,z.K.oW] at this;cases this).trans ((aD λe=>by have:=M.od;rw[e,M.ox] at this;cases this).trans M.ad))
   (λc t q r s v=>(aD λe=>v (by subst e;exact kr (q.symm.trans z.K.oW))).trans (aD λe=>r (by subst e;exact kr (q.symm.trans M.ox))))
   λc t q=>stand rfl (stand rfl (z.K.ry c t q))
 | true,hn=>z.LP ha hi rfl rfl u.1 (sX _ u.2 j hj hn) (λy h=>h.elim (λh=>ex y (.inl h)) λh=>(cy h).elim (λh=>ex y (.inr h)) λh=>⟨b,by rw[cu h];exact hb⟩)
   (upd (upd z.P (z.kp i).ad (.list (0,0) (z.A.dB (C.c i).ah++[.ref b]))) w.W (.inst 1055 (sN w { z.n with V:=z.n.V+1 }))) (aA ..)
   ((aD λe=>by have:=M.ox;rw[e,z.K.oW] at this;cases this).trans ((aD λe=>by have:=M.od;rw[<-e,M.ox] at this;cases this).trans M.xd))
   ((aD λe=>by have:=M.od;rw[e,z.K.oW] at this;cases this).trans ((aA ..).trans (by rw[<-aQ hb];exact aj (λv=>some (PO.list (0,0) v)) (kW (A:=z.A) (C.c i).ah [j]))))
   (λc t q r s v=>(aD λe=>v (by subst e;exact kr (q.symm.trans z.K.oW))).trans (aD λe=>s (by subst e;exact kr (q.symm.trans M.od))))
   λc t q=>stand rfl (stand rfl (z.K.ry c t q))
end
section
section
variable{m:Nat}{X:XP}{Q:VQ}{w:Wc}{C:Cont}{i j:Nat}{b e l:Ad}{s:Str}{P0:PH}
theorem rR{n:Nm}(h:P0 w.W=some (.inst 1055 (sN w n)))(hq:Q .none (upd P0 w.W (.inst 1055 (sN w { n with V:=n.V+1 })))):Calls (m+1) 530 [.ref w.W] P0 X Q:=aB 33 rfl rfl rfl (aG (v:=.int n.V 0) h rfl rfl rfl (bQ h rfl (qB w n) hq))
theorem wN:lC 228 228=true:=⋯
structure Plain(C:Cont)(j:Nat):Prop where
 ic:gJ j=false
 mx:(C.c j).mx=[]
 ah:(C.c j).ah=[]
theorem Plain.of(W:jQ C)(h:j∈([15,16]:List Nat)):Plain C j:=by have q:(j<12\/14<j)/\vV j=[]/\gJ j=false:=(by decide +kernel:∀ j∈([15,16]:List Nat),(j<12\/14<j)/\vV j=[]/\gJ j=false) j h;exact⟨q.2.2,(W.base j q.1).2.1.trans q.2.1,(W.base j q.1).2.2⟩
theorem pO(z:Z w C [])(hb:z.A.ad j=some b)(hp:gJ j=false)(hq:Q .none z.P):Calls (m+1) 403 [.ref w.W,.ref b] z.P X Q:=aB 18 rfl rfl rfl ⟨rfl,bS (z.at_ hb nn) rfl (bt wN (aG (v:=.bool false) (z.at_ hb nn) rfl (by show some (Value.bool (gJ j))=_;rw[hp]) rfl hq))⟩
theorem pP(z:Z w C [])(ha:z.A.ad i=some a)(hb:z.A.ad j=some b)(hp:Plain C j)(hij:i≠j)(hq:∀ P',Pu z.P P'->Q .none P'):Calls (m+4) 614 [.ref w.W,.ref a,.ref b] z.P X Q:=by refine aB 45 rfl rfl rfl ⟨rfl,bS (z.at_ hb nn) rfl (bt wN (aG (v:=.bool false) (z.at_ hb nn) rfl (by show some (Value.bool (gJ j))=_;rw[hp.ic]) rfl (lY (m:=m+2) z hb ⟨hp.mx,hp.ah⟩ (Pu.refl _) λP1 e p1 q h1=>?_)))⟩;have h1:(z.pu P1 p1).P e=some (.list (0,0) (z.A.dB [j])):=h1.trans (by rw[<-aQ hb];rfl);refine fT (z.pu P1 p1) h1 (λx hx=>by rw[cu hx];exact⟨b,hb⟩) ha bl (bf ?_ (hq P1 p1));rw[List.contains_cons,beq_eq_false_iff_ne.mpr hij];rfl
theorem MH(z:Z w C [])(ha:z.A.ad i=some a)(way:Bool):∀ y∈(C.c i).X way,∃ b,z.A.ad y=some b:=λy h=>by
 cases way with
 | false=>exact z.K.ref i a ha nn y (u7 h)
 | true=>exact z.K.ref i a ha nn y (u6 h)
noncomputable def Co.inc(o:Co)(way:Bool)(j:Nat):Co:=if (o.X way).contains j then o else o.vU way j
theorem Le.vU{w':Wc}{C':Cont}{S':List Nat}{z0:Z w' C' S'}{z:Z w C []}(l:Le z0 z)(ha:z.A.ad i=some a)(hi:i=12\/i=13\/i=14)(hb:z.A.ad j=some b)(hj:j∈([15,16]:List Nat))(way:Bool)(hn:((C.c i).X way).contains j=false):Le z0 (z.vU ha hi hb hj way hn):=by
 have M:=z.K.mod i a ha nn
 have no:∀{c c' t},z0.h c=none\/(∃ t,z0.h c=some (t,99))->z.h c=z0.h c->z.h c'=some t->t.2≠99->c≠c':=λk q r n e=>by
  rw[<-q,e,r] at k;rcases k with k|⟨_,k⟩
  ·cases k
  ·exact n (aj Prod.snd (kr k))
 cases way with
 | false=>exact⟨λc o q r k=>have y:=l.fr c o q r k;⟨(aD (no k y.2 z.K.oW ())).trans ((aD (no k y.2 M.ox (by show i≠99;lia))).trans y.1),y.2⟩,l.ad⟩
 | true=>exact⟨λc o q r k=>have y:=l.fr c o q r k;⟨(aD (no k y.2 z.K.oW ())).trans ((aD (no k y.2 M.od (by show i≠99;lia))).trans y.1),y.2⟩,l.ad⟩
theorem CM(C:Cont)(i:Nat):C.upd i (C.c i)=C:=by
 unfold Cont.upd
 have:(λj=>if j=i then C.c i else C.c j)=C.c:=funext λj=>by
  by_cases q:j=i
  ·rw[ai q,q]
  ·rw[aa q]
 rw[this]
theorem Ends.same{z:Z w C []}{R:PH->Prop}{o:Co}(h:Ends z (C.upd i o) R)(e:o=C.c i):Ends z C R:=by rw[e,CM] at h;exact h
theorem Ed(z:Z w C [])(ha:z.A.ad i=some a)(hi:i=12\/i=13\/i=14)(hb:z.A.ad j=some b)(hj:j∈([15,16]:List Nat))(hq:Ends z (C.upd i ((C.c i).inc false j)) (Q .none)):Calls (m+5) 621 [.ref w.W,.ref a,.ref b] z.P X Q:=by
 have hij:i≠j:=λq=>by subst q;rcases hi with rfl|rfl|rfl<;>exact absurd hj ()
 refine aB 46 rfl rfl rfl (pP z ha hb (.of z.K.wf hj) hij λP1 p1=>eE (m:=m+3) (z.pu P1 p1) ha (aG (v:=.ref (z.kp i).xd) ((z.pu P1 p1).at_ ha nn) rfl rfl rfl (fT (m:=m+1) (z.pu P1 p1) ((z.pu P1 p1).K.mod i a ha nn).xd (MH z ha false) hb (k6 (cJ _ (z.K.wf.us i).1) ()) ?_)));have l1:Le z (z.pu P1 p1):=(Le.refl z).pu P1 p1;cases q:((C.c i).X false).contains j with
 | true=>exact bt q (hq.same (by unfold Co.inc;rw[q];rfl) _ l1 rfl)
 | false=>have M:=(z.pu P1 p1).K.mod i a ha nn;refine bf q (aG (v:=.ref (z.kp i).xd) ((z.pu P1 p1).at_ ha nn) rfl rfl rfl ⟨rU M.xd,BG M.xd (wI (cJ _ (z.K.wf.us i).1)) (rR (n:=z.n) ((aD λe=>by have:z.h (z.kp i).xd=some (3,i):=M.ox;rw[<-e,z.K.oW] at this;cases this).trans (z.pu P1 p1).K.W) ?_)⟩);unfold Co.inc at hq;rw[q] at hq;exact hq ((z.pu P1 p1).vU ha hi hb hj false q) (l1.vU ha hi hb hj false q) rfl
theorem Eh(z:Z w C [])(ha:z.A.ad i=some a)(hi:i=12\/i=13\/i=14)(hb:z.A.ad j=some b)(hj:j∈([15,16]:List Nat))(hq:Ends z (C.upd i ((C.c i).inc true j)) (Q .none)):Calls (m+5) 628 [.ref w.W,.ref a,.ref b] z.P X Q:=by
 have hij:i≠j:=λq=>by subst q;rcases hi with rfl|rfl|rfl<;>exact absurd hj ()
 refine aB 47 rfl rfl rfl (pP z ha hb (.of z.K.wf hj) hij λP1 p1=>eE (m:=m+3) (z.pu P1 p1) ha (aG (v:=.ref (z.kp i).ad) ((z.pu P1 p1).at_ ha nn) rfl rfl rfl (fT (m:=m+1) (z.pu P1 p1) ((z.pu P1 p1).K.mod i a ha nn).ad (MH z ha true) hb (k6 (cJ _ (z.K.wf.us i).2) ()) ?_)));have l1:Le z (z.pu P1 p1):=(Le.refl z).pu P1 p1;cases q:((C.c i).X true).contains j with
 | true=>exact bt q (hq.same (by unfold Co.inc;rw[q];rfl) _ l1 rfl)
 | false=>have M:=(z.pu P1 p1).K.mod i a ha nn;refine bf q (aG (v:=.ref (z.kp i).ad) ((z.pu P1 p1).at_ ha nn) rfl rfl rfl ⟨rU M.ad,BG M.ad (wI (cJ _ (z.K.wf.us i).2)) (rR (n:=z.n) ((aD λe=>by have:z.h (z.kp i).ad=some (4,i):=M.od;rw[<-e,z.K.oW] at this;cases this).trans (z.pu P1 p1).K.W) ?_)⟩);unfold Co.inc at hq;rw[q] at hq;exact hq ((z.pu P1 p1).vU ha hi hb hj true q) (l1.vU ha hi hb hj true q) rfl
theorem qK(z:Z w C [])(ha:z.A.ad i=some a)(hi:i=12\/i=13\/i=14)(hb:z.A.ad j=some b)(hj:j∈([15,16]:List Nat))(hl:z.P l=some (.list t [.ref b]))(ul:z.h l=none)(hq:Ends z (C.upd i ((C.c i).inc false j)) (Q (.ref a))):Calls (m+6) 684 [.ref w.W,.ref a,.ref l] z.P X Q:=by refine aB 55 rfl rfl rfl (cO hl bl (pO (m:=m+4) z hb (Plain.of z.K.wf hj).ic ⟨hl,yL hl bl λf hf=>cO (aA ..) bl ?_⟩));let z1:=z.new f (.list (0,0) [.ref b]) hf;exact Ed (m:=m) z1 ha hi hb hj λz2 l2 A2=>⟨(l2.fr f _ (aA ..) rfl (.inl (z.un hf))).1,hq z2 (((Le.refl z).new _ hf).trans l2) A2⟩
theorem qL(z:Z w C [])(ha:z.A.ad i=some a)(hi:i=12\/i=13\/i=14)(hb:z.A.ad j=some b)(hj:j∈([15,16]:List Nat))(hl:z.P l=some (.list t [.ref b]))(ul:z.h l=none)(hq:Ends z (C.upd i ((C.c i).inc true j)) (Q (.ref a))):Calls (m+6) 691 [.ref w.W,.ref a,.ref l] z.P X Q:=by refine aB 56 rfl rfl rfl (cO hl bl (pO (m:=m+4) z hb (Plain.of z.K.wf hj).ic ⟨hl,yL hl bl λf hf=>cO (aA ..) bl ?_⟩));let z1:=z.new f (.list (0,0) [.ref b]) hf;exact Eh (m:=m) z1 ha hi hb hj λz2 l2 A2=>⟨(l2.fr f _ (aA ..) rfl (.inl (z.un hf))).1,hq z2 (((Le.refl z).new _ hf).trans l2) A2⟩
theorem sf(z:Z w C [])(ha:z.A.ad i=some a)(U:zK i)(hx:x∈bH)(hl:z.P l=some (.list t [.str x 0]))(ul:z.h l=none)(hq:∀ q,(C.c i).mt.lookup x=some (some q)->Ends z (C.setM i (sj x (C.c i).mt)) (Q (.ref a)))(hX:(C.c i).mt.lookup x=none\/(C.c i).mt.lookup x=some none->Raises z X):
  Calls (m+36) 698 [.ref w.W,.ref a,.ref l] z.P X Q:=aB 57 rfl rfl rfl (cO hl bl (fV (m:=m+34) (GU (m:=m) z ha U hx (λq e z2 l2 A2=>⟨(l2.fr l _ hl rfl (.inl ul)).1,hq q e z2 l2 A2⟩) hX)))
theorem ug(z:Z w C [])(ha:z.A.ad i=some a)(U:zK i)(hx:x∈bH)(hl:z.P l=some (.list t [.str x 0]))(ul:z.h l=none)(hq:∀ q,aW C i x=some q->Ends z (C.setM i (cQ x none (C.c i).mt)) (Q (.ref a)))(hX:aW C i x=none->Raises z X):
  Calls (m+36) 705 [.ref w.W,.ref a,.ref l] z.P X Q:=aB 58 rfl rfl rfl (cO hl bl (fV (m:=m+34) (BO (m:=m) z ha U hx (λq e z2 l2 A2=>⟨(l2.fr l _ hl rfl (.inl ul)).1,hq q e z2 l2 A2⟩) hX)))
theorem t9(z:Z w C [])(ha:z.A.ad i=some a)(U:zK i)(hx:x∈bH)(hy:y∈bH)(hl:z.P l=some (.list t [.str x 0,.str y 0]))(hq:∀ q,aW C i y=some q->Ends z (C.setM i (cQ x (some q) (C.c i).mt)) (Q (.str x 0)))(hX:aW C i y=none->Raises z X):
  Calls (m+36) 712 [.ref w.W,.ref a,.ref l] z.P X Q:=aB 59 rfl rfl rfl (cB (v:=.str x 0) hl () () rfl (fV (m:=m+34) (cB (v:=.str y 0) hl () () rfl (fV (m:=m+34) (Kg (m:=m) z ha U hx hy hq hX)))))
end
end
theorem EX:bO 1055 13=some 1038/\bL 13=none:=⋯
theorem K2:bO 1055 14=some 1017/\bL 14=none:=⋯
theorem Rh:bO 1055 15=some 1045/\bL 15=none:=⋯
def KL(x:Str):Prop:=x="K"\/x="L"
theorem KL.key{x:Str}(h:KL x):x∈bH:=by rcases h with rfl|rfl<;>decide +kernel
theorem KL.tab{x:Str}(h:KL x):aR x iD=none:=by rcases h with rfl|rfl<;>decide +kernel
theorem KL.ne{x:Str}(h:KL x):decide (x="")=false:=by rcases h with rfl|rfl<;>decide +kernel
theorem BY{k:Str}:∀{ct:List (Str × Int)},aR k (ct.map λq=>(q.1,.int q.2 0))=(ct.lookup k).map λv=>.int v 0:=by
 intro rr;induction rr with
 | nil=>exact rfl
 | cons q ct ih=>
  show(if q.1=k then _ else _)=_;by_cases e:q.1=k
  ·rw[ai e,f6,e,bg];rfl
  ·rw[aa e,f6,beq_eq_false_iff_ne.mpr (gz e)];exact ih
noncomputable def OY:Op Int->List Va
 | none=>[.bool false,.none]
 | some v=>[.bool true,.int v 0]
noncomputable def rS(C:Cont)(x:Str)(i:Nat):List Nat->Op Int
 | []=>none
 | j::r=>if j=1/\i≠1 then none else match (C.c j).ct.lookup x with
  | some v=>some v
  | none=>rS C x i r
theorem sW{C:Cont}{x:Str}{i j:Nat}{r:List Nat}:rS C x i (j::r)=if j=1/\i≠1 then none else match (C.c j).ct.lookup x with
  | some v=>some v
  | none=>rS C x i r:=rfl
noncomputable def BQ(C:Cont)(i:Nat)(x:Str):Op Int:=rS C x i (aX C i)
section
variable{m:Nat}{X:XP}{Q:VQ}{w:Wc}{C:Cont}{i j:Nat}{b e l:Ad}{s:Str}{P0:PH}{v0:Va}
theorem Ef(hx:KL x)(hq:Q (.bool true) P0):Calls (m+1) 382 [.str x 0,.str "ABCDEFGHIJKLMNOPQRSTUVWXYZ" 0] P0 X Q:=aB 16 rfl rfl rfl (bf hx.ne ⟨⟨rfl,hx⟩,λq=>bW (b:=false) (by show Option.map _ (if _/\_ then _ else _)=_;rw[ai ⟨rfl,hx⟩];rfl) ⟨hx,⋯,hq⟩⟩)
theorem lu(hx:KL x)(hq:Q (.str x 0) P0):Calls (m+2) 389 [v0,.str x 0] P0 X Q:=aB 17 rfl rfl rfl ⟨trivial,rfl,Ef hx hq⟩
theorem uh(z:Z w C [])(ha:z.A.ad i=some a)(hx:KL x)(p:Pu z.P P0)(hq:∀ P' e,Pu P0 P'->P0 e=none->P' e=some (.tup (OY ((C.c i).ct.lookup x)))->Q (.ref e) P'):Calls (m+1) 1017 [.ref w.W,.ref a,.str x 0] P0 X Q:=by
 have M:=z.K.mod i a ha nn;have cd:=p _ _ M.cd;refine aB 83 rfl rfl rfl (aG (v:=.ref (z.kp i).cd) (p _ _ M.at_) rfl rfl rfl λj=>bW (inD (dF cd)) ?_);rw[BY];cases q:(C.c i).ct.lookup x with
 | some v=>rw[q] at hq;exact aG (v:=.ref (z.kp i).cd) (p _ _ M.at_) rfl rfl rfl λj=>aO (v:=.int v 0) cd (by rw[BY,q];rfl) ⟨bl,λe he=>hq _ e ((Pu.refl P0).new _ he) he (aA ..)⟩
 | none=>
  rw[q] at hq
  exactλns=>bW (b:=false) (by rw[inD (rY (a:=789) (o:=.dict (0,0) iD) ns rfl),hx.tab];rfl) ⟨bl,λe he=>hq _ e ((Pu.refl P0).new _ he) he (aA ..)⟩
theorem Ld(o:Op Int):(OY o)[(0:Int).toNat]?=some (.bool o.isSome):=by cases o<;>rfl
noncomputable def GJ:U:=match lD with
 | .seq _ (.seq (.loop _ _ b) _)=>b
 | _=>.skip
theorem Ez(z:Z w C [])(ha:z.A.ad i=some a)(h1:z.A.ad 1=some b)(hx:KL x){N:NP}{lv:List Va}(hl:z.P l=some (.list t lv)):∀(r:List Nat) (P0:PH) (e:Ad) (v5:Op Va),Pu z.P P0->(∀ j∈r,∃ b,z.A.ad j=some b)->P0 e=some (.tup (OY none))->(∀ P' e,Pu z.P P'->P' e=some (.tup (OY (rS C x i r)))->z.P e=none\/z.P e=P' e->Q (.ref e) P')->(z.P e=none\/z.P e=P0 e)->(∀ P' e v5,Q (.ref e) P'->N [some (.ref w.W),some (.ref a),some (.str x 0),some (.ref b),some (.ref e),v5,none,none] P')->cL (λv l P' k=>wpS (m+2) (fF 8) GJ (l.set 5 (some v)) (jV (fF 8) 5 P') X k Q) (λP'=>P' l=some (.list t lv)) (z.A.dB r) [some (.ref w.W),some (.ref a),some (.str x 0),some (.ref b),some (.ref e),v5,none,none] P0 N:=by
 intro rr;induction rr with
 | nil=>exactλP0 e v5 p u he hq hn hN=>hN P0 e v5 (hq P0 e p he hn)
 | cons j r ih=>
  intro P0 e v5 p hr he hq hn hN;obtain⟨c,hc⟩:=hr j (.head _);show cL _ _ (z.A.rf (some j)::z.A.dB r) _ _ _;rw[aQ hc];let y:=z.pu P0 p
  have go:¬ (j=1/\i≠1)->Calls (m+2) 1017 [.ref w.W,.ref c,.str x 0] P0 X λv P'=>wpS (m+2) (fF 8) (bV 2 GJ) [some (.ref w.W),some (.ref a),some (.str x 0),some (.ref b),some v,some (.ref c),none,none] P' X (λl' P'=>P' l=some (.list t lv)/\cL (λv l P' k=>wpS (m+2) (fF 8) GJ (l.set 5 (some v)) (jV (fF 8) 5 P') X k Q) (λP'=>P' l=some (.list t lv)) (z.A.dB r) l' P' N) Q:=λhj=>by
   refine uh (m:=m+1) z hc hx p λP2 f p2 hf h2=>oj (v:=.bool ((C.c j).ct.lookup x).isSome) h2 () () (Ld _) ?_;have nf:z.P f=none:=p.un hf;cases q:(C.c j).ct.lookup x with
   | some v=>exact hq P2 f (p.trans p2) (by rw[h2,q];rw[sW];rw[aa hj,q]) (.inl nf)
   | none=>rw[q] at h2;exact⟨(p.trans p2) _ _ hl,ih P2 f _ (p.trans p2) (λy hy=>hr y (.tail _ hy)) h2 (λP' e p' h'=>hq P' e p' (by rw[sW];rw[aa hj,q];exact h')) (.inl nf) hN⟩
  refine iW (m:=m) y hc h1 nn nn ?_;by_cases j1:j=1
  ·refine bt (au j1) (iW (m:=m) y ha h1 nn nn ?_)
   by_cases i1:i=1
   ·exact bt (au i1) (aU y.K.W K2.1 (by rw[K2.2];trivial) (go λh=>h.2 i1))
   ·refine bf (av i1) ⟨bl,λf hf=>hq _ f (p.new _ hf) ?_ (.inl (p.un hf))⟩
    rw[sW];rw[ai ⟨j1,i1⟩];exact aA ..
  ·exact bf (av j1) (aU y.K.W K2.1 (by rw[K2.2];trivial) (go λh=>j1 h.1))
theorem qI(z:Z w C [])(ha:z.A.ad i=some a)(hx:KL x)(hq:∀(z':Z w C []) e,Le z z'->z'.P e=some (.tup (OY (BQ C i x)))->Q (.ref e) z'.P):Calls (m+30) 1038 [.ref w.W,.ref a,.str x 0] z.P X Q:=by refine aB 84 rfl rfl rfl (aU z.K.W oq.1 (by rw[oq.2];trivial) (gV z 1 rfl λz1 b l1 hb=>⟨bl,λe he=>⟨bl,λf hf=>nR (aA ..) ⟨rfl,?_⟩⟩⟩));let z2:=(z1.new e (.tup (OY none)) he).new f (.tup [.ref b,.ref e]) hf;have l2:Le z z2:=(l1.new _ he).new _ hf;have he2:z2.P e=some (.tup (OY none)):=aI (aA ..) hf;refine qJ (m:=m+10) 8 i z2 (qs i) (l1.ad i a ha).1 λz3 l L=>?_;have he3:=L.le.fr e _ he2 rfl (.inl (z1.un he));refine cO L.at_ (k6 (fu (gi (fR _)) (kD z.K.wf 12 i)) ()) ?_;rw[<-L.A];exact Ez (m:=m+27) z3 (by rw[L.A];exact(l1.ad i a ha).1) (by rw[L.A];exact hb) hx (by rw[L.at_,L.A]) (aX C i) z3.P e none (Pu.refl _) (λj hj=>by rw[L.A];exact L.ex j hj) he3.1 (λP' e' p' h' q=>hq (z3.pu P' p') e' ((l2.trans L.le).pu P' p') h') (.inr rfl) λP' e' v5 h=>h
end
theorem Ri:bO 1055 16=some 1052/\bL 16=none:=⋯
theorem Rj:bO 1055 17=some 996/\bL 17=none:=⋯
theorem JE:lC 228 40=true:=⋯
theorem Gu{behind:List Nat}{y:Nat}:∀(r:List Nat) (c:Nat) (found:List Nat),y∈lU behind c r found->y∈r\/y∈found:=by
 intro rr;induction rr with
 | nil=>exactλq q h=>.inr h
 | cons x r ih=>
  intro c found h;rcases ih (c-1) _ h with h|h
  ·exact .inl (.tail _ h)
  ·split at h
   ·rcases cy h with h|h
    ·exact .inr h
    ·rw[cu h];exact .inl (.head _)
   ·exact .inr h
theorem EU{C:Cont}{behind:List Nat}{i y:Nat}(h:y∈eG C behind i):y∈mG C i\/y∈behind:=by
 rcases cy h with h|h
 ·exact .inl ((Gu _ _ _ h).resolve_right gk)
 ·exact .inr (d9 h).1
theorem ER{C:Cont}(W:jQ C):∀(k i:Nat),i<12->∀ j∈jJ C k i,j<12:=by
 intro rr;induction rr with
 | zero=>exactλy y y h=>absurd h gk
 | succ k ih=>
  intro i hi j h;have B:=W.base i (.inl hi);have f:∀ i,i<12->(∀ j∈vV i,j<12)/\∀ p∈(par i).toList,p<12:=⋯;rcases EU (i:=i) h with h|h
  ·unfold mG at h
   rw[B.2.1,B.2.2] at h;rcases ku h with h|h
   ·rw[h];exact hi
   ·exact(f i hi).1 j (d8 h)
  ·cases q:par i with
   | none=>rw[q] at h;cases h
   | some p=>rw[q] at h;exact ih p ((f i hi).2 p (mem_some q)) j h
theorem Kr{C:Cont}(W:jQ C){x:Str}{i:Nat}:∀ ln:List Nat,(∀ j∈ln,j<12)->rS C x i ln=none:=by
 intro rr;induction rr with
 | nil=>exactλq=>rfl
 | cons j r ih=>intro h;rw[sW];rw[(W.base j (.inl (h j (.head _)))).1,ih λy hy=>h y (.tail _ hy)];split<;>rfl
section
variable{m:Nat}{X:XP}{Q:VQ}{w:Wc}{C:Cont}{i j:Nat}{b e l:Ad}{s:Str}{P0:PH}{v0:Va}{n:Int}
theorem vX(z:Z w C [])(ha:z.A.ad i=some a)(U:zK i)(hx:KL x)(i1:i≠1)(hc:BQ C i x=none)(hX:Raises z X):Calls (m+34) 1045 [.ref w.W,.ref a,.str x 0] z.P X Q:=by have le:∀{s:Str},s.length.ble 100=true->s.length<=100:=λh=>bl h;refine aB 85 rfl rfl rfl ⟨rfl,bS (z.at_ ha nn) rfl (bt wN (aU z.K.W EX.1 (by rw[EX.2];trivial) (qI (m:=m+3) z ha hx λz1 e l1 h1=>?_)))⟩;rw[hc] at h1;have ha1:=(l1.ad i a ha).1;refine nR h1 ⟨rfl,aU z1.K.W oq.1 (by rw[oq.2];trivial) (gV (m:=m+4) z1 1 rfl λz2 b l2 hb=>iW (m:=m+31) z2 (l2.ad i a ha1).1 hb nn nn (bf (av i1) (lW (m:=m+32) z2 (l2.ad i a ha1).1 U.gU U.qC U.gJ (vS (k:=1) (le rfl) rfl (le rfl) λb1=>?_))))⟩;exact aU z2.K.W EY.1 (by rw[EY.2];trivial) ⟨⟨lB (k:=1) (le rfl) rfl,lB b1 rfl⟩,⟨lB (k:=100) bl rfl,lB (k:=1) (qa hx.key) rfl⟩,BJ (m:=m) z2 λz3 e l3 hE=>hX z3 e ((l1.trans l2).trans l3) hE⟩
theorem se(z:Z w C [])(ha:z.A.ad i=some a)(U:zK i)(hx:KL x)(i1:i≠1)(hq:∀ v,BQ C i x=some v->∀(z':Z w C []),Le z z'->Q (.int v 0) z'.P)(hX:BQ C i x=none->Raises z X):Calls (m+35) 719 [.ref w.W,.ref a,.str x 0] z.P X Q:=by
 refine aB 60 rfl rfl rfl (aU z.K.W EX.1 (by rw[EX.2];trivial) (lu (m:=m+32) hx (qI (m:=m+4) z ha hx λz1 e l1 h1=>?_)));cases q:BQ C i x with
 | some v=>rw[q] at h1;exact nR h1 ⟨rfl,hq v q z1 l1⟩
 | none=>rw[q] at h1;refine nR h1 ⟨rfl,aU z1.K.W EX.1 (by rw[EX.2];trivial) (aU z1.K.W oq.1 (by rw[oq.2];trivial) (gV (m:=m+5) z1 1 rfl λz2 b l2 hb=>qI (m:=m+4) z2 hb hx λz3 f l3 h3=>?_))⟩;have c1:BQ C 1 x=none:=Kr z.K.wf _ λj hj=>ER z.K.wf 12 1 () j hj;rw[c1] at h3;have l13:=(l1.trans l2).trans l3;exact nR h3 ⟨rfl,aU z3.K.W Rh.1 (by rw[Rh.2];trivial) (vX (m:=m) z3 (l13.ad i a ha).1 U hx i1 q λz4 e l4 hE=>hX q z4 e (l13.trans l4) hE)⟩
theorem pN(z:Z w C [])(ha:z.A.ad i=some a)(U:zK i)(hx:KL x)(i1:i≠1)(hl:z.P l=some (.list t [.str x 0]))(hq:∀ v,BQ C i x=some v->∀(z':Z w C []),Le z z'->Q (.int v 0) z'.P)(hX:BQ C i x=none->Raises z X):Calls (m+37) 733 [.ref w.W,.ref a,.ref l] z.P X Q:=by refine aB 62 rfl rfl rfl (cB (v:=.str x 0) hl () () rfl (fV (m:=m+35) (aB 61 rfl rfl rfl ⟨trivial,⟨rfl,hx⟩,λf hf=>cB (v:=.str x 0) (aA ..) () () rfl ?_⟩)));let z1:=z.new f (.list (0,0) [.str x 0]) hf;have l1:Le z z1:=(Le.refl z).new _ hf;refine se (m:=m) z1 ha U hx i1 (λv e z2 l2=>yL (l2.fr f _ (aA ..) rfl (.inl (z.un hf))).1 bl λg hg=>cO (aA ..) bl (hq v e (z2.new g _ hg) ((l1.trans l2).new _ hg))) λe z2 g l2 hE=>hX e z2 g (l1.trans l2) hE
theorem wh(z:Z w C [])(ha:z.A.ad i=some a)(hq:Q .none z.P):Calls (m+1) 996 [.ref w.W,.ref a] z.P X Q:=aB 82 rfl rfl rfl ⟨rfl,bS (z.at_ ha nn) rfl (bt JE (aG (v:=.bool false) (z.at_ ha nn) rfl rfl rfl hq))⟩
noncomputable def Cont.setC(C:Cont)(i:Nat)(ct:List (Str × Int)):Cont:=C.upd i { C.c i with ct:=ct }
theorem iI{ct:List (Str × Int)}(j:Nat):((C.setC i ct).c j).mx=(C.c j).mx/\((C.setC i ct).c j).ah=(C.c j).ah/\((C.setC i ct).c j).mt=(C.c j).mt:=by
 by_cases q:j=i
 ·subst q;unfold Cont.setC;rw[fX];exact⟨rfl,rfl,rfl⟩
 ·unfold Cont.setC;rw[dG q];exact⟨rfl,rfl,rfl⟩
theorem jQ.setC(W:jQ C){ct:List (Str × Int)}(hi:i=12\/i=13\/i=14)(hn:(ct.map (·.1)).Nodup/\∀ q∈ct,q.1∈bH):jQ (C.setC i ct) where
 base:=λj h=>by have:=W.base j h;rw[(iI j).1,(iI j).2.1];exact⟨by unfold Cont.setC;rw[dG λq=>by lia];exact this.1,this.2⟩
 Br:=λj h=>by rw[(iI j).2.2];exact W.Br j h
 us:=λj=>by rw[(iI j).1,(iI j).2.1];exact W.us j
 u5:=λj=>by rw[(iI j).1,(iI j).2.1];exact W.u5 j
 nd:=λj=>by rw[(iI j).2.2];exact W.nd j
 nc:=λj=>by
  by_cases q:j=i
  ·subst q;unfold Cont.setC;rw[fX];exact hn
  ·unfold Cont.setC;rw[dG q];exact W.nc j
noncomputable def Z.setC(z:Z w C [])(ha:z.A.ad i=some a)(hi:i=12\/i=13\/i=14)(hx:x∈bH)(n:Int):Z w (C.setC i (cQ x n (C.c i).ct)) [] where
 P:=upd z.P (z.kp i).cd (.dict (0,0) (cT x (.int n 0) ((C.c i).ct.map λq=>(q.1,.int q.2 0))))
 A:=z.A
 h:=z.h
 n:=z.n
 kp:=λj=>if j=i then z.kp i else z.kp j
 K:=
  have K:=z.K;have M:=K.mod i a ha nn;have nd:=K.wf.nc i;have sx:∀ j,((C.setC i (cQ x n (C.c i).ct)).c j).mx=(C.c j).mx/\((C.setC i (cQ x n (C.c i).ct)).c j).ah=(C.c j).ah:=λj=>⟨(iI j).1,(iI j).2.1⟩
  have na:∀{c t o},z.h c=some t->t≠(2,i)->z.P c=some o->upd z.P (z.kp i).cd (.dict (0,0) (cT x (.int n 0) ((C.c i).ct.map λq=>(q.1,.int q.2 0)))) c=some o:=λq r p=>(aD λx=>r (by subst x;exact kr (q.symm.trans M.oc))).trans p
  K.chg ha (λc o t q r s p l=>⟨na q (λe=>r (by rw[e])) p,q⟩) (na K.oW eW K.W) K.oW (λc t q=>stand rfl (K.ry c t q))
   (λj q=>⟨dG q,rfl⟩) rfl (K.wf.setC hi ⟨xS nd.1,λq hq=>(nA nd.1 hq).elim (λh=>by rw[h];exact hx) λh=>nd.2 q h.1⟩) (eu _) (eu _) rfl (λj y y=>tD sx 12 j)
   (by
    have:refsOf (C.setC i (cQ x n (C.c i).ct)) i=refsOf C i:=by unfold refsOf;rw[(sx i).1,(sx i).2];rfl
    rw[this];exact K.ref i a ha nn) K.lk
   {at_:=na M.oa eW M.at_,fd:=na M.of eW M.fd
    md:=by rw[(iI i).2.2];exact na M.om eW M.md
    cd:=by rw[show(C.setC i (cQ x n (C.c i).ct)).c i=_ from fX];exact(aA ..).trans (aj (λv=>some (PO.dict (0,0) v)) (qo (g:=λq=>.int q.2 0) (g':=λq=>.int q.2 0) nd.1 rfl λy y y=>rfl))
    xd:=by rw[(sx i).1];exact na M.ox eW M.xd
    ad:=by rw[(sx i).2];exact na M.od eW M.ad
    ent:=λq hq=>by rw[(iI i).2.2] at hq;exact⟨na (M.ent q hq).2 eW (M.ent q hq).1,(M.ent q hq).2⟩
    kp:=λkt kl v ln e=>
     have k:=M.kp kt kl v ln e
     ⟨⟨na k.1.2.2.1 eW k.1.1,na k.1.2.2.2 eW k.1.2.1,k.1.2.2⟩,k.2.1,λe=>(k.2.2.1 e).trans (tD sx 12 i).symm,k.2.2.2⟩
    oa:=M.oa,of:=M.of,om:=M.om,oc:=M.oc,ox:=M.ox,od:=M.od }
theorem Le.setC{w':Wc}{C':Cont}{S':List Nat}{z0:Z w' C' S'}{z:Z w C []}(l:Le z0 z)(ha:z.A.ad i=some a)(hi:i=12\/i=13\/i=14)(hx:x∈bH)(n:Int):Le z0 (z.setC ha hi hx n):=⟨λc o q r k=>
 have y:=l.fr c o q r k
 ⟨(aD λx=>by
  rw[<-y.2,x,(z.K.mod i a ha nn).oc] at k;rcases k with k|⟨t,k⟩<;>cases k
  exact absurd (z.K.le _ a ha).2 ()).trans y.1,y.2⟩,l.ad⟩
theorem uu(z:Z w C [])(ha:z.A.ad i=some a)(hi:i=12\/i=13\/i=14)(hx:x∈bH)(hq:Ends z (C.setC i (cQ x n (C.c i).ct)) (Q .none)):Calls (m+2) 1052 [.ref w.W,.ref a,.str x 0,.int n 0] z.P X Q:=by refine aB 86 rfl rfl rfl ⟨rfl,bS (z.at_ ha nn) rfl (bt wN (aU z.K.W Rj.1 (by rw[Rj.2];trivial) (wh z ha (aG (v:=.ref (z.kp i).cd) (z.at_ ha nn) rfl rfl rfl (cW (z.K.mod i a ha nn).cd (k6 (fu (gi (ef ..)) (z.K.wf.Sn i)) ()) ⟨rfl,?_⟩)))))⟩;let z1:=z.setC ha hi hx n;exact aG (v:=.int z1.n.cv 0) z1.K.W rfl rfl rfl (bQ z1.K.W rfl (qB w z1.n) (hq (z1.gZ z1.n.N z1.n.V (z1.n.cv+1) (eu _) (eu _)) (((Le.refl z).setC ha hi hx n).gZ _ _) rfl))
theorem lF(z:Z w C [])(ha:z.A.ad i=some a)(hi:i=12\/i=13\/i=14)(hx:KL x)(hl:z.P l=some (.list t [.str x 0,.int n 0]))(ul:z.h l=none)(hq:Ends z (C.setC i (cQ x n (C.c i).ct)) (Q (.int n 0))):Calls (m+4) 740 [.ref w.W,.ref a,.ref l] z.P X Q:=aB 63 rfl rfl rfl (aU z.K.W Ri.1 (by rw[Ri.2];trivial) (cB (v:=.str x 0) hl () () rfl (fV (m:=m+2) (lu (m:=m+1) hx (cB (v:=.int n 0) hl () () rfl (uu (m:=m+1) z ha hi hx.key λz2 l2 A2=>cB (v:=.int n 0) (l2.fr l _ hl rfl (.inl ul)).1 () () rfl (hq z2 l2 A2)))))))
end
theorem Sp:bO 1055 1=some 884/\bL 1=none:=⋯
theorem Sq:bO 1055 2=some 891/\bL 2=none:=⋯
theorem Us:bO 1055 3=some 898/\bL 3=none:=⋯
theorem Gj:bO 228 5=some 225/\bL 5=none:=⋯
theorem Uv:bO 1055 9=some 926/\bL 9=none:=⋯
noncomputable def vv(C:Cont):Nat->Op Nat->Nat
 | _,none=>3
 | 0,_=>3
 | k+1,some p=>if C.lk p then(cU p).getD 3 else vv C k (par p)
noncomputable def y9(C:Cont)(i:Nat):Nat:=if C.lk i then(cU i).getD 3 else vv C 8 (par i)
section
variable{m:Nat}{X:XP}{Q:VQ}{w:Wc}{C:Cont}{i j:Nat}{b e l:Ad}{s:Str}{P0:PH}{v0:Va}{n:Int}
theorem yO(z:Z w C [])(ha:z.A.ad i=some a)(hl:C.lk i=true)(ho:(cU i).isSome=true):∃ b,z.A.ad ((cU i).getD 3)=some b/\eF 3 (lI z.A (C.lk i) i (z.kp i))=some (.ref b):=by obtain⟨q,hq⟩:=cz ho;obtain⟨b,hb⟩:=z.K.ref i a ha nn q (Im hl hq);refine⟨b,by rw[hq];exact hb,?_⟩;show some (OC z.A i (C.lk i))=_;rw[hl];show some (z.A.rf (cU i))=_;rw[hq,aQ hb]
theorem yT(z:Z w C [])(hl:C.lk i=false):eF 3 (lI z.A (C.lk i) i (z.kp i))=some .none:=by show some (OC z.A i (C.lk i))=_;rw[hl];rfl
def r9(C:Cont):Prop:=∀ i,C.lk i=true->(cU i).isSome=true
theorem GD(z:Z w C [])(L:r9 C){v0 v1:Op Va}{N:NP}(hN:vv C 8 (par i)=3->N [v0,v1,some .none] z.P)(hq:∀ d,z.A.ad (vv C 8 (par i))=some d->Q (.ref d) z.P):∀(k:Nat) (o:Op Nat),(∀ p∈o.toList,(∃ c,z.A.ad p=some c)/\rk p<k)->vv C k o=vv C 8 (par i)->r8 (λl P' Q=>bE (m+1) (.prim .isnot (.cons (.loc 2) (.cons (.con .none) .nil))) l P' X Q) (λl P' k=>wpS (m+1) [false,false,false] (match jD with|.seq _ (.seq (.sO _ b) _)=>b|_=>.skip) l P' X k Q) (k+1) [v0,v1,some (z.A.rf o)] z.P N:=by
 intro k;induction k with
 | zero=>
  intro o h he;cases o with
  | none=>exact⟨rfl,hN (he.symm.trans rfl)⟩
  | some p=>exact absurd (h p (.head _)).2 (j0 _)
 | succ k ih=>
  intro o h he;cases o with
  | none=>exact⟨rfl,hN (he.symm.trans rfl)⟩
  | some p=>
  obtain⟨⟨c,hc⟩,hr⟩:=h p (.head _);have h2:z.A.rf (some p)=.ref c:=aQ hc;rw[h2];refine⟨rfl,?_⟩;by_cases hl:C.lk p=true
  ·obtain⟨d,hd,hg⟩:=yO z hc hl (L p hl)
   refine aG (v:=.ref d) (z.at_ hc nn) rfl hg rfl ⟨rfl,aG (v:=.ref d) (z.at_ hc nn) rfl hg rfl (hq d ?_)⟩;rw[<-he];show z.A.ad (if C.lk p=true then _ else _)=_;rw[ai hl];exact hd
  ·refine aG (v:=.none) (z.at_ hc nn) rfl (yT z (by simpa using hl)) rfl ⟨rfl,aG (z.at_ hc nn) rfl rfl (xV ..) (ih (par p) (λq hq=>⟨z.K.ref p c hc nn q (iL hq),gr (iH (Option.mem_toList.mp hq)).1 (jq hr)⟩) ?_)⟩
   rw[<-he];show _=if C.lk p=true then _ else _
   rw[aa hl]
theorem GS(z:Z w C [])(L:r9 C)(ha:z.A.ad i=some a)(U:zK i)(hq:∀ d,z.A.ad (y9 C i)=some d->Q (.ref d) z.P):Calls (m+3) 891 [.ref w.W,.ref a] z.P X Q:=by
 refine aB 74 rfl rfl rfl ⟨rfl,bS (z.at_ ha nn) rfl (bt JE ?_)⟩;by_cases hl:C.lk i=true
 ·obtain⟨d,hd,hg⟩:=yO z ha hl (L i hl)
  exact aG (v:=.ref d) (z.at_ ha nn) rfl hg rfl ⟨rfl,aG (v:=.ref d) (z.at_ ha nn) rfl hg rfl (hq d (by unfold y9;rw[ai hl];exact hd))⟩
 ·have h3:∃ b,z.A.ad 3=some b:=z.K.ref i a ha nn 3 (by have:=tG C i;unfold qk at this;rwa [U.gJ] at this)
  obtain⟨b,hb⟩:=h3;have eo:eF 1 (lI z.A (C.lk i) i (z.kp i))=some (.ref b):=by show some (z.A.rf (some (qk i)))=_;unfold qk;rw[U.gJ];exact aj some (aQ hb)
  have eg:y9 C i=vv C 8 (par i):=by unfold y9;rw[aa hl]
  refine aG (v:=.none) (z.at_ ha nn) rfl (yT z (by simpa using hl)) rfl ⟨rfl,rfl,bS (z.at_ ha nn) rfl (bt wN (aU z.K.W Us.1 (by rw[Us.2];trivial) (aB 75 rfl rfl rfl ?_)))⟩;refine aG (v:=.bool true) (z.at_ ha nn) rfl (by show some (Value.bool (gJ i))=_;rw[U.gJ]) rfl (aU (z.at_ ha nn) Gj.1 (by rw[Gj.2];trivial) (lX z ha nn ?_));rw[U.gU];refine aG (z.at_ ha nn) rfl rfl (xV ..) ⟨9,GD z L (λe=>aG (v:=.ref b) (z.at_ ha nn) rfl eo rfl (hq b (by rw[eg,e];exact hb))) (λd hd=>hq d (by rw[eg];exact hd)) 8 (par i) (λq hq=>⟨z.K.ref i a ha nn q (iL hq),gr (iH (Option.mem_toList.mp hq)).1 (ja (iH (Option.mem_toList.mp hq)).2)⟩) rfl⟩
noncomputable def JI(num:Va)(a fd:Ad):List (Nat × Va):=[(0,num),(1,.ref a),(2,.ref fd),(3,.none),(4,.bool false),(5,.none)]
noncomputable def seen(every:Bool):Ent->Bool
 | none=>false
 | some q=>every||decide (q.2="public")
theorem xq{num:Va}{fd:Ad}{every:Bool}(z:Z w C [])(ha:z.A.ad i=some a)(he:z.P e=some (.inst 40 (JI num a fd)))(hq:∀(z':Z w C []),Gr z z'->Q (.bool (seen every (aW C i x))) z'.P):Calls (m+21) 635 [.ref w.W,.ref e,.str x 0,.bool every] z.P X Q:=by
 refine aB 48 rfl rfl rfl (aU z.K.W Sq.1 (by rw[Sq.2];trivial) (aB 74 rfl rfl rfl ⟨rfl,bS he rfl (bt ⋯ (aG (v:=.none) he rfl rfl rfl ⟨rfl,rfl,bS he rfl (bf ⋯ (aG (v:=.ref a) he rfl rfl rfl (ye (m:=m) z ha λz1 v s1 hv=>?_)))⟩))⟩));have hq:=hq z1 s1;cases q:aW C i x with
 | none=>rw[q] at hv hq;have hv:v=.none:=hv;subst hv;exact⟨rfl,hq⟩
 | some d=>
  rw[q] at hv hq;obtain⟨f,r,rfl,h1,_⟩:=hv;refine⟨rfl,bt rfl ?_⟩;by_cases ev:every=true
  ·refine bt ev ?_
   rw[ev] at hq;exact hq
  ·have ev:every=false:=by simpa using ev
   refine bf ev (aG (v:=.str d.2 0) h1 rfl rfl rfl ?_);rw[ev] at hq;exact hq
theorem uo{num:Va}{fd:Ad}(z:Z w C [])(ha:z.A.ad i=some a)(he:z.P e=some (.inst 40 (JI num a fd)))(hl:z.P l=some (.list t [.str x 0]))(hq:∀(z':Z w C []),Gr z z'->Q (.bool (seen false (aW C i x))) z'.P):Calls (m+22) 642 [.ref w.W,.ref e,.ref l] z.P X Q:=aB 49 rfl rfl rfl (cB (v:=.str x 0) hl () () rfl (fV (m:=m+20) (Ib hl bl (xq (m:=m) z ha he hq))))
theorem uq{num:Va}{fd:Ad}(z:Z w C [])(ha:z.A.ad i=some a)(he:z.P e=some (.inst 40 (JI num a fd)))(hl:z.P l=some (.list t [.str x 0,.bool true]))(hq:∀(z':Z w C []),Gr z z'->Q (.bool (seen true (aW C i x))) z'.P):Calls (m+22) 642 [.ref w.W,.ref e,.ref l] z.P X Q:=aB 49 rfl rfl rfl (cB (v:=.str x 0) hl () () rfl (fV (m:=m+20) (Ib hl bl (cB (v:=.bool true) hl () () rfl (aB 11 rfl rfl rfl (xq (m:=m) z ha he hq))))))
theorem tZ{p:Nat}(z:Z w C [])(ha:z.A.ad i=some a)(hp:par i=some p)(hb:z.A.ad p=some b)(hq:Q (.ref b) z.P):Calls (m+1) 747 [.ref w.W,.ref a,v0] z.P X Q:=aB 64 rfl rfl rfl (aG (v:=.ref b) (z.at_ ha nn) rfl (by show some (z.A.rf (par i))=_;rw[hp,aQ hb]) rfl hq)
theorem wg(z:Z w C [])(ha:z.A.ad i=some a)(hn:qC i=none)(hq:Q .none z.P):Calls (m+1) 670 [.ref w.W,.ref a,v0] z.P X Q:=aB 53 rfl rfl rfl (aG (v:=.none) (z.at_ ha nn) rfl (by show some (jB (qC i))=_;rw[hn];rfl) rfl ⟨rfl,hq⟩)
theorem tY{Cl:Ad}{fs:List (Nat × Va)}(he:P0 e=some (.inst Cl fs))(hs:(eV.lookup Cl).isSome=true)(hf:gQ Cl 1=true){v:Va}(hg:eF 1 fs=some v)(hh:handedIn v=true)(hq:Q v P0):Calls (m+1) 884 [v0,.ref e] P0 X Q:=aB 73 rfl rfl rfl ⟨rfl,oQ he hs (oQ he hs (oQ he hs (aG he hf hg hh hq)))⟩
noncomputable def Q9(num:Va)(b fd l:Ad):List (Nat × Va):=[(0,num),(1,.ref b),(2,.ref fd),(3,.none),(4,.bool false),(5,.none),(18,.ref l)]
theorem we(z:Z w C [])(ha:z.A.ad i=some a)(hq:∀(z':Z w C []) e num b fd l,Le z z'->z'.P e=some (.inst 82 (Q9 num b fd l))->z'.P l=some (.list (0,0) (z.A.dB (aX C i)))->(∀ y∈aX C i,∃ b,z.A.ad y=some b)->Q (.ref e) z'.P):Calls (m+31) 677 [.ref w.W,.ref a,v0] z.P X Q:=by
 refine aB 54 rfl rfl rfl (aU z.K.W Uv.1 (by rw[Uv.2];trivial) (qJ (m:=m+11) 8 i z (qs i) ha λz1 l L=>aB 78 rfl rfl rfl (aU z1.K.W DB.1 (by rw[DB.2];exact PL w z1.n) (iV z1 ?_))));let z2:=z1.gZ (z1.n.N+1) z1.n.V z1.n.cv (g5 (eu _)) (eu _);have l2:Le z1 z2:=(Le.refl z1).gZ _ _;refine aU z2.K.W oq.1 (by rw[oq.2];trivial) (gV (m:=m) z2 8 rfl λz3 b l3 hb=>tE (((l2.trans l3).fr l _ L.at_ rfl (.inr ⟨8,L.u⟩)).1) (k6 (fu (gi (fR _)) (kD z.K.wf 12 i)) ()) λf hf e he=>aB 2 rfl rfl rfl (mZ (aA ..) rfl λP4 fd b4 j j h4 j=>⟨rfl,bQ h4 rfl (cZ rfl) ⟨rfl,?_⟩⟩));have fe:f≠e:=λq=>by rw[<-q,aA] at he;cases he
 have p:Pu (upd z3.P f (.list (0,0) (z.A.dB (aX C i)))) (upd P4 e (.inst 82 (Q9 (.int (z1.n.N+1) 0) b fd f))):=λc o q=>
  have n:c≠e:=λr=>by rw[r,he] at q;cases q
  (aD n).trans (b4 c o n ((aD n).trans q))
 exact hq ((z3.new f _ hf).pu _ p) e (.int (z1.n.N+1) 0) b fd f ((((L.le.trans l2).trans l3).new _ hf).pu _ p) (aA ..) (p _ _ (aA ..)) L.ex
end
theorem Ut:bO 1055 4=some 905/\bL 4=none:=⋯
theorem MZ:bO 1055 8=some 961/\bL 8=some 43:=⋯
theorem Rk:bO 1055 18=some 968/\bL 18=none:=⋯
noncomputable def vB:Nat->Nat->Op Str
 | 0,_=>none
 | k+1,i=>if (nat i).isNone||!(gU i).isNone then(match par i with
  | some p=>vB k p
  | none=>none) else nat i
theorem LK{k i:Nat}:vB (k+1) i=if (nat i).isNone||!(gU i).isNone then(match par i with
  | some p=>vB k p
  | none=>none) else nat i:=rfl
noncomputable def rq:Nat->Nat->Bool
 | 0,_=>false
 | k+1,i=>(match nat i with
  | some s=>!decide (s="Exception")
  | none=>true)&&(match par i with
  | some p=>rq k p
  | none=>true)
theorem I9{k i:Nat}:rq (k+1) i=((match nat i with
  | some s=>!decide (s="Exception")
  | none=>true)&&(match par i with
  | some p=>rq k p
  | none=>true)):=rfl
section
variable{m:Nat}{X:XP}{Q:VQ}{w:Wc}{C:Cont}{i j:Nat}{b e l:Ad}{s:Str}{P0:PH}{v0:Va}{n:Int}
theorem dD{S:List Nat}(z:Z w C S)(hx:qC i=some x)(ha:z.A.ad i=some a)(hq:Q (.ref a) z.P):Calls (m+1) 857 [.ref w.W,.str x 0] z.P X Q:=by refine aB 69 rfl rfl rfl (aG (v:=.ref w.gK) z.K.W rfl rfl rfl ⟨mu z.K.gK,uK z.K.gK ?_⟩);rw[z.K.ve i x hx,ha];exact⟨rfl,hq⟩
theorem Fg(z:Z w C []){N:NP}{v0:Op Va}:∀(k i:Nat) (a:Ad),z.A.ad i=some a->vB k i=some s->(∀ a fs,z.P a=some (.inst 228 fs)->eF 15 fs=some (.str s 0)->N [v0,some (.ref a)] z.P)->r8 (λl P' Q=>bE (m+1) (.or (.prim .is (.cons (.attr (.loc 1) 15) (.cons (.con .none) .nil))) (.aS (.loc 1) 5 .nil)) l P' X Q) (λl P' k=>wpS (m+1) [false,false] (.seq (.dQ 1 (.attr (.loc 1) 8)) .skip) l P' X k Q) k [v0,some (.ref a)] z.P N:=by
 intro rr;induction rr with
 | zero=>exactλj j j h j=>by cases h
 | succ k ih=>
  intro i a ha h hN;have M:=z.at_ ha nn;rw[LK] at h
  have up:((nat i).isNone||!(gU i).isNone)=true->wpS (m+1) [false,false] (.seq (.dQ 1 (.attr (.loc 1) 8)) .skip) [v0,some (.ref a)] z.P X (λl' P'=>r8 (λl P' Q=>bE (m+1) (.or (.prim .is (.cons (.attr (.loc 1) 15) (.cons (.con .none) .nil))) (.aS (.loc 1) 5 .nil)) l P' X Q) (λl P' k=>wpS (m+1) [false,false] (.seq (.dQ 1 (.attr (.loc 1) 8)) .skip) l P' X k Q) k l' P' N) Q:=λq=>by
   rw[ai q] at h;cases hp:par i with
   | none=>rw[hp] at h;cases h
   | some p=>rw[hp] at h;obtain⟨c,hc⟩:=z.K.ref i a ha nn p (iL (mem_some hp));exact aG (v:=.ref c) M rfl (by show some (z.A.rf (par i))=_;rw[hp,aQ hc]) rfl (ih p c hc h hN)
  refine aG M rfl rfl (tM _) ⟨mF _,?_⟩;cases hn:nat i with
  | none=>exact bt rfl (up (by rw[hn];rfl))
  | some s'=>
   refine bf rfl (aU M Gj.1 (by rw[Gj.2];trivial) (lX z ha nn ?_));cases ht:(gU i).isNone with
   | false=>exact bt rfl (up (by rw[ht];exact Bool.or_true _))
   | true=>rw[hn,ht] at h;refine bf rfl (hN a _ M ?_);show some (jB (nat i))=_;rw[hn];exact aj (λs=>some (Value.str s 0)) (kr h)
theorem Ei(z:Z w C [])(ha:z.A.ad i=some a)(h:vB 8 i=some s)(hq:Q (.str s 0) z.P):Calls (m+2) 905 [.ref w.W,.ref a] z.P X Q:=aB 76 rfl rfl rfl ⟨8,Fg z 8 i a ha h λa fs h1 h2=>aG h1 rfl h2 rfl hq⟩
theorem Hv(z:Z w C []){N:NP}{v0:Op Va}:∀(k:Nat) (o:Op Nat),(∀ p∈o.toList,(∃ c,z.A.ad p=some c)/\rq k p=true)->N [v0,some .none] z.P->r8 (λl P' Q=>bE m (.prim .isnot (.cons (.loc 1) (.cons (.con .none) .nil))) l P' X Q) (λl P' k=>wpS m [false,false] (match dZ with|.seq (.sO _ b) _=>b|_=>.skip) l P' X k Q) (k+1) [v0,some (z.A.rf o)] z.P N:=by
 intro k;induction k with
 | zero=>
  intro o h hN;cases o with
  | none=>exact⟨rfl,hN⟩
  | some p=>have:=(h p (.head _)).2;cases this
 | succ k ih=>
  intro o h hN;cases o with
  | none=>exact⟨rfl,hN⟩
  | some p=>
  obtain⟨⟨c,hc⟩,hp⟩:=h p (.head _);rw[I9] at hp;rw[e9] at hp;have M:=z.at_ hc nn;rw[aQ hc];have up:wpS m [false,false] (.seq (.dQ 1 (.attr (.loc 1) 8)) .skip) [v0,some (.ref c)] z.P X (λl' P'=>r8 (λl P' Q=>bE m (.prim .isnot (.cons (.loc 1) (.cons (.con .none) .nil))) l P' X Q) (λl P' k=>wpS m [false,false] (match dZ with|.seq (.sO _ b) _=>b|_=>.skip) l P' X k Q) (k+1) l' P' N) Q:=aG M rfl rfl (xV ..) (ih (par p) (λq hq=>⟨z.K.ref p c hc nn q (iL hq),by have:=hp.2;rw[Option.mem_toList.mp hq] at this;exact this⟩) hN);cases hn:nat p with
  | none=>exact⟨rfl,aG (v:=.none) M rfl (by show some (jB (nat p))=_;rw[hn];rfl) rfl up⟩
  | some s=>
   refine⟨rfl,aG (v:=.str s 0) M rfl (by show some (jB (nat p))=_;rw[hn];rfl) rfl (bf ?_ up)⟩;have:=hp.1;rw[hn] at this
   simpa using this
theorem BK(z:Z w C [])(ha:z.A.ad i=some a)(h:rq 8 i=true)(hq:Q (.bool false) z.P):Calls (m+1) 968 [.ref w.W,.ref a] z.P X Q:=by refine aB 80 rfl rfl rfl ⟨9,?_⟩;have:=Hv (m:=m) (X:=X) (Q:=Q) (v0:=some (.ref w.W)) (N:=λq P'=>Q (.bool false) P') z 8 (some i) (λp hp=>by rw[cu hp];exact⟨⟨a,ha⟩,h⟩) hq;rw[aQ ha] at this;exact this
end
section
theorem Mj(w:Wc)(n:Nm):eF 43 (sN w n)=none:=by unfold sN;cases w.mn<;>rfl
theorem PE:nQ 800=some (.tup [.str "NilClass" 0,.str "TrueClass" 0,.str "FalseClass" 0,.str "Integer" 0,.str "Numeric" 0,.str "Symbol" 0]):=rfl
section
variable{m:Nat}{X:XP}{Q:VQ}{w:Wc}{C:Cont}{i j:Nat}{b e l:Ad}{s:Str}{P0:PH}{v0:Va}{n:Int}
noncomputable def Sa(k:Nat):U:=bV k oF
theorem o8(z:Z w C [])(ha:z.A.ad i=some a)(ht:gU i=none)(hr:vB 8 i=some s)(hu:fZ s [.str "NilClass" 0,.str "TrueClass" 0,.str "FalseClass" 0,.str "Integer" 0,.str "Numeric" 0,.str "Symbol" 0]=some false)(hs:∀ q∈(["String","Array","Hash","Range","Fiber","Proc"]:List Str),decide (s=q)=false)
  (hq:∀ z':Z w C [],Le z z'->z'.A=z.A->z'.n.N=z.n.N+1->wpS (m+3) (fF 15) (Sa 9) (some (.ref w.W)::some (.ref a)::some (.str s 0)::some (.int (z.n.N+1) 0)::nN 11) z'.P X (λj P'=>Q .none P') Q):Calls (m+4) 961 [.ref w.W,.ref a] z.P X Q:=by refine aB 79 rfl rfl rfl (aU (z.at_ ha nn) Gj.1 (by rw[Gj.2];trivial) (lX z ha nn ?_));rw[ht];refine aU z.K.W Ut.1 (by rw[Ut.2];trivial) (Ei (m:=m+1) z ha hr (aU z.K.W DB.1 (by rw[DB.2];exact PL w z.n) (iV (m:=m+2) z ⟨bl,λt ht=>nR (aA ..) ⟨rfl,λns=>bW (b:=false) (by rw[Uo (rY ns PE)];exact hu) ?_⟩⟩)));have f:=λq hq=>hs q hq;refine bf rfl (bf (f _ (.head _)) (bf (f _ (.tail _ (.head _))) (bf (f _ (.tail _ (.tail _ (.head _)))) (bf (f _ (.tail _ (.tail _ (.tail _ (.head _))))) (bf (f _ (.tail _ (.tail _ (.tail _ (.tail _ (.head _)))))) (bf (f _ (.tail _ (.tail _ (.tail _ (.tail _ (.tail _ (.head _))))))) ?_))))));exact hq ((z.gZ (z.n.N+1) z.n.V z.n.cv (g5 (eu _)) (eu _)).new t _ ht) (((Le.refl z).gZ _ _).new _ ht) rfl rfl
theorem Ab(z:Z w C [])(ha:z.A.ad i=some a)(hi:i=12\/i=13\/i=14)(hq:∀(z':Z w C []) e num fd,Le z z'->z'.A=z.A->z'.h e=none->Nw z e->z'.P e=some (.inst 40 (JI num a fd))->Q (.ref e) z'.P):Calls (m+4) 961 [.ref w.W,.ref a] z.P X Q:=by
 have F:gU i=none/\vB 8 i=some "Object"/\rq 8 i=true:=by rcases hi with rfl|rfl|rfl<;>exact⟨rfl,rfl,rfl⟩
 refine o8 z ha F.1 F.2.1 ⋯ ⋯ λz1 l1 A1 j=>aU z1.K.W Rk.1 (by rw[Rk.2];trivial) (BK (m:=m+2) z1 (A1▸ha) F.2.2 λe he=>mZ (aA ..) rfl λP4 fd b4 j j h4 j=>⟨rfl,?_⟩)
 have p:Pu z1.P P4:=λc o q=>
  have n:c≠e:=λr=>by rw[r,he] at q;cases q
  b4 c o n ((aD n).trans q)
 exact hq (z1.pu _ p) e _ fd (l1.pu _ p) A1 (z1.un he) ((Nw.none z1 he).of l1) h4
structure lS(z z':Z w C [])(e:Ad)(k:Kp)(num:Int)(fs:List (Nat × Va)):Prop where
 le:Le z z'
 A:z'.A=z.A
 nw:CR z e k
 c:Cells z'.P z'.h e k fs [] [] [] []
 kn:k.kp=none
 Tp:num<=z'.n.N
 fr:∀ j b,z.A.ad j=some b->z.A.num j≠num
theorem lS.put{z z':Z w C []}{k:Kp}{num:Int}{fs:List (Nat × Va)}(r:lS z z' e k num fs)(fs':List (Nat × Va)):lS z (z'.put e (.inst 228 fs') r.c.ua) e k num fs':=⟨r.le.put _ r.nw.n0 _,r.A,r.nw,r.c.put fs',r.kn,r.Tp,r.fr⟩
theorem lS.of{z z1:Z w C []}{P':PH}{fd md cd xd ad:Ad}{num:Int}{fs:List (Nat × Va)}(l:Le z z1)(hA:z1.A=z.A)(hn:z1.n.N=z.n.N+1)(M:BC z1.P P' e (k0 fd md cd xd ad))(h:P' e=some (.inst 228 fs))(en:num=z.n.N+1):lS z (z1.pu P' M.pu) e (k0 fd md cd xd ad) num fs:=⟨l.pu _ _,hA,M.nw.of l,M.cells rfl h,rfl,by rw[en];exact Int.le_of_eq hn.symm,λj b q r=>absurd (z.K.le j b q).1 (by rw[r,en];lia)⟩
theorem nY(z:Z w C [])(ha:z.A.ad 3=some a)(hb:z.A.ad 1=some b)(hq:∀(z':Z w C []) e k num,lS z z' e k num (m0 (.int num 0) (.ref a) .none (.bool true) (.ref b) .none k)->Q (.ref e) z'.P):Calls (m+4) 961 [.ref w.W,.ref a] z.P X Q:=o8 z ha rfl (s:="Class") rfl ⋯ ⋯ λz1 l1 A1 n1=>(aU z1.K.W oq.1 (by rw[oq.2];trivial) (dD (m:=m+2) z1 (i:=1) rfl (A1▸hb) λe he=>aB 5 rfl rfl rfl (qh he λP2 fd md cd xd ad M hM=>⟨rfl,hq (z1.pu P2 M.pu) e (k0 fd md cd xd ad) (z.n.N+1) (.of l1 A1 n1 M hM rfl)⟩)))
theorem uv(z:Z w C [])(ha:z.A.ad 2=some a)(hq:∀(z':Z w C []) e k num,lS z z' e k num (m0 (.int num 0) (.ref a) .none (.bool false) .none .none k)->Q (.ref e) z'.P):Calls (m+4) 961 [.ref w.W,.ref a] z.P X Q:=o8 z ha rfl (s:="Module") rfl ⋯ ⋯ λz1 l1 A1 n1=>λe he=>aB 4 rfl rfl rfl (qh he λP2 fd md cd xd ad M hM=>⟨rfl,hq (z1.pu P2 M.pu) e (k0 fd md cd xd ad) (z.n.N+1) (.of l1 A1 n1 M hM rfl)⟩)
end
end
noncomputable def Cont.new(C:Cont)(i:Nat)(o:Co):Cont:=⟨λj=>if j=i then true else C.ex j,C.lk,λj=>if j=i then o else C.c j⟩
section
variable{w:Wc}{C:Cont}{i:Nat}{e:Ad}{k:Kp}{o:Co}{num:Int}
noncomputable def Z.Gv(z:Z w C [])(hi:z.A.ad i=none)(h12:12<=i/\i<22)(hn:num<=z.n.N)(hj:∀ j b,z.A.ad j=some b->z.A.num j≠num)(W:jQ (C.new i o))(hL:∀ j b,z.A.ad j=some b->aX (C.new i o) j=aX C j)
  (c:Cells z.P z.h e k (lI (z.A.set i e num) false i k) (o.mt.map λq=>(q.1,.ref (k.ea q.1))) (o.ct.map λq=>(q.1,.int q.2 0)) ((z.A.set i e num).dB o.mx) ((z.A.set i e num).dB o.ah))
  (he:∀ q∈o.mt,z.P (k.ea q.1)=some (.inst 256 (sZ q.2 (k.er q.1)))/\z.h (k.ea q.1)=some (9,99)) (hk:k.kp=none) (hr:∀ j∈qk i::((par i).toList++(gU i).toList++o.mx++o.ah),∃ b,(z.A.set i e num).ad j=some b):Z w (C.new i o) [] where
 P:=z.P
 A:=z.A.set i e num
 h:=Fe z.h i e k
 n:=z.n
 kp:=λj=>if j=i then k else z.kp j
 K:=
  have K:=z.K;have ci:(C.new i o).c i=o:=ai rfl
  have hlk:C.lk i=false:=by
   cases q:C.lk i with
   | false=>rfl
   | true=>exact(K.lk i q).elim λb e=>by rw[hi] at e;cases e
  have K1:Core w (C.new i o) (i::[]) z.P (z.A.set i e num) z.h z.n z.kp:=K.open hi h12.2 (λc o t y y p=>p) K.gK (fu (Nat.add_le_add_left (yR (bT hi)) _) K.vf) K.wJ
   (λj x q=>by rw[K.ve j x q];exact aj _ (aa λr=>absurd (qV q).1 (by lia)).symm) ⟨rfl,rfl,rfl⟩ (λj q=>aa q) hL rfl (λj y=>rfl) W hn hj
  have R:=c.RI i;have l2:(C.new i o).lk i=false:=hlk
  K1.close (set_same ..) R.old (λx t q=>(R.st x t q).elim (K.ry x t) id)
   (λj hj=>hr j (by
    unfold refsOf at hj;rw[ci,l2] at hj
    simpa using hj))
   {at_:=by rw[l2];exact c.at_,fd:=c.fd,md:=by rw[ci];exact c.md,cd:=by rw[ci];exact c.cd,xd:=by rw[ci];exact c.xd,ad:=by rw[ci];exact c.ad
    ent:=λq hq=>by rw[ci] at hq;exact⟨(he q hq).1,R.old _ _ (he q hq).2⟩
    kp:=λkt kl v ln e=>by rw[hk] at e;cases e
    oa:=R.oa,of:=R.of,om:=R.om,oc:=R.oc,ox:=R.ox,od:=R.od }
theorem Le.Gv{w':Wc}{C':Cont}{S':List Nat}{z0:Z w' C' S'}{z:Z w C []}{z':Z w (C.new i o) []}(l:Le z0 z)(n:CR z0 e k)(hi:z.A.ad i=none)(eP:z'.P=z.P)(eA:z'.A=z.A.set i e num)(eh:z'.h=Fe z.h i e k):Le z0 z':=
 ⟨λc o q r t=>⟨by rw[eP];exact(l.fr c o q r t).1,by have f:∀ x,Nw z0 x->c≠x:=λx nx e=>nx o (by rw[<-e];exact q) r (by rw[<-e];exact t);rw[eh,DP (f _ n.n0) (f _ n.n1) (f _ n.n2) (f _ n.n3) (f _ n.n4) (f _ n.n5)];exact(l.fr c o q r t).2⟩,λj b q=>by rw[eA];have y:=l.ad j b q;have x:=bT (a:=e) (num:=num) hi j b y.1;exact⟨x.1,x.2.trans y.2⟩⟩
noncomputable def dX:Co:=⟨[],[],[],[]⟩
theorem DE(h:C.c i=dX):(C.new i dX).c=C.c:=funext λj=>by
 show(if j=i then dX else C.c j)=_;by_cases q:j=i
 ·rw[ai q,q,h]
 ·rw[aa q]
theorem jQ.new(W:jQ C)(h:C.c i=dX):jQ (C.new i dX):=by have e:=DE h;exact⟨by rw[e];exact W.base,by rw[e];exact W.Br,by rw[e];exact W.us,by rw[e];exact W.u5,by rw[e];exact W.nd,by rw[e];exact W.nc⟩
noncomputable def lS.add{z z':Z w C []}{fs:List (Nat × Va)}(r:lS z z' e k num fs)(hi:z.A.ad i=none)(h12:12<=i/\i<22)(h:C.c i=dX)(hf:fs=lI (z.A.set i e num) false i k)(hr:∀ j∈qk i::((par i).toList++(gU i).toList),∃ b,(z.A.set i e num).ad j=some b):Z w (C.new i dX) []:=z'.Gv (i:=i) (num:=num) (k:=k) (e:=e) (o:=dX) (by rw[r.A];exact hi) h12 r.Tp (by rw[r.A];exact r.fr) (z'.K.wf.new h) (λj b y=>yM (DE h) 12 j) (r.c.cast (by rw[r.A];exact hf) rfl rfl rfl rfl) (λq hq=>by cases hq) r.kn (λj hj=>by rw[r.A];exact hr j (by simpa [dX] using hj))
theorem lS.Tq{z z':Z w C []}{fs:List (Nat × Va)}(r:lS z z' e k num fs)(hi:z.A.ad i=none)(h12:12<=i/\i<22)(h:C.c i=dX)(hf:fs=lI (z.A.set i e num) false i k)(hr:∀ j∈qk i::((par i).toList++(gU i).toList),∃ b,(z.A.set i e num).ad j=some b):Le z (r.add hi h12 h hf hr):=r.le.Gv (num:=num) r.nw (by rw[r.A];exact hi) rfl rfl rfl
end
section
variable{m:Nat}{X:XP}{Q:VQ}{w:Wc}{C:Cont}{i j p:Nat}{b c e l:Ad}
theorem yi(z:Z w C [])(h3:z.A.ad 3=some c)(h1:z.A.ad 1=some b)(ha:z.A.ad p=some a)(hp:gJ p=true/\gU p=none/\p≠3)(hq:∀(z':Z w C []) e k num,lS z z' e k num (eH 8 (.ref a) (eH 7 (.bool true) (m0 (.int num 0) (.ref c) .none (.bool true) (.ref b) .none k)))->Q (.ref e) z'.P):Calls (m+5) 436 [.ref w.W,.ref a] z.P X Q:=by refine aB 22 rfl rfl rfl ⟨rfl,bS (z.at_ ha nn) rfl (bt wN (aG (v:=.bool true) (z.at_ ha nn) rfl (by show some (Value.bool (gJ p))=_;rw[hp.1]) rfl (aU (z.at_ ha nn) Gj.1 (by rw[Gj.2];trivial) (lX z ha nn ?_))))⟩;rw[hp.2.1];refine aU z.K.W oq.1 (by rw[oq.2];trivial) (dD (m:=m+3) (i:=3) z rfl h3 (iW (m:=m+2) z ha h3 nn nn (bf (av hp.2.2) (aU z.K.W MZ.1 (by rw[MZ.2];exact Mj w z.n) (aU z.K.W oq.1 (by rw[oq.2];trivial) (dD (m:=m+3) (i:=3) z rfl h3 (nY (m:=m) z h3 h1 λz1 e k num r=>?_)))))));have r1:=r.put (eH 7 (.bool true) (m0 (.int num 0) (.ref c) .none (.bool true) (.ref b) .none k));have r2:=r1.put (eH 8 (.ref a) (eH 7 (.bool true) (m0 (.int num 0) (.ref c) .none (.bool true) (.ref b) .none k)));exact bQ r.c.at_ rfl (cZ rfl) (bQ r1.c.at_ rfl (cZ rfl) (hq _ e k num r2))
theorem wc(z:Z w C [])(h2:z.A.ad 2=some c)(hq:∀(z':Z w C []) e k num,lS z z' e k num (m0 (.int num 0) (.ref c) .none (.bool false) .none .none k)->Q (.ref e) z'.P):Calls (m+5) 443 [.ref w.W] z.P X Q:=aB 23 rfl rfl rfl (aU z.K.W MZ.1 (by rw[MZ.2];exact Mj w z.n) (aU z.K.W oq.1 (by rw[oq.2];trivial) (dD (m:=m+3) (i:=2) z rfl h2 (uv (m:=m) z h2 hq))))
end
section
theorem Rf:bO 1055 10=some 877/\bL 10=none:=⋯
noncomputable def Cont.link(C:Cont)(i:Nat):Cont:={ C with lk:=λj=>if j=i then true else C.lk j }
noncomputable def cV:Nat->Cont->Nat->Cont
 | 0,C,_=>C
 | k+1,C,i=>if C.lk i then C else((match par i with
  | some p=>cV k C p
  | none=>C).new ((cU i).getD 0) dX).link i
theorem iO{k:Nat}{C:Cont}{i:Nat}:cV (k+1) C i=if C.lk i then C else((match par i with
  | some p=>cV k C p
  | none=>C).new ((cU i).getD 0) dX).link i:=rfl
structure jP(i o:Nat):Prop where
 ic:gJ i=true
 at_:gU i=none
 ow:cU i=some o
 lo:12<=o/\o<22
 io:gJ o=true
 po:par o=(match par i with
  | some p=>cU p
  | none=>some 3)
 ao:gU o=some i
 nm:qC o=none
 nt:nat o=(nat i).map λs=>s++(".":Str)
 nl:∀ s,nat i=some s->s.length<big
 up:∀ p,par i=some p->∃ q,cU p=some q
theorem jP.of{i o:Nat}(h:cU i=some o):jP i o:=
 have m:(i,o)∈([(0,17),(1,18),(12,19),(13,20),(14,21)]:List (Nat × Nat)):=lookup_mem h
 have f:=(by decide +kernel:∀ q∈([(0,17),(1,18),(12,19),(13,20),(14,21)]:List (Nat × Nat)),gJ q.1=true/\gU q.1=none/\(12<=q.2/\q.2<22)/\gJ q.2=true/\par q.2=(match par q.1 with
  | some p=>cU p
  | none=>some 3)/\gU q.2=some q.1/\qC q.2=none/\nat q.2=(nat q.1).map (λs=>s++(".":Str))/\((nat q.1).all λs=>decide (s.length<big))=true/\((par q.1).all λp=>(cU p).isSome)=true) _ m
 ⟨f.1,f.2.1,h,f.2.2.1,f.2.2.2.1,f.2.2.2.2.1,f.2.2.2.2.2.1,f.2.2.2.2.2.2.1,f.2.2.2.2.2.2.2.1,λs e=>by have w:=f.2.2.2.2.2.2.2.2.1;rw[e] at w;exact of_decide_eq_true w,λp e=>by have w:=f.2.2.2.2.2.2.2.2.2;rw[e] at w;exact cz w⟩
def eK(C:Cont):Prop:=∀ i o,cU i=some o->C.lk i=false->C.ex o=false/\C.c o=dX
theorem eK.step{C:Cont}{i o:Nat}(V:eK C)(h:cU i=some o):eK ((C.new o dX).link i):=λj q hj hl=>by
 have n:j≠i:=λe=>by subst e;have:(if j=j then true else C.lk j)=false:=hl;rw[ai rfl] at this;cases this
 have hl':C.lk j=false:=(aa n).symm.trans hl;have nq:q≠o:=λe=>n (by have h1:=(jP.of hj).ao;rw[e,(jP.of h).ao] at h1;exact(kr h1).symm);exact⟨(aa nq).trans (V j q hj hl').1,(aa nq).trans (V j q hj hl').2⟩
section
variable{w:Wc}{C:Cont}{i o:Nat}{b:Ad}
noncomputable def Z.link(z:Z w C [])(ha:z.A.ad i=some a)(hl:C.lk i=false)(ho:cU i=some o)(hb:z.A.ad o=some b)(P':PH)(hP:∀ c,c≠a->P' c=z.P c)(hPa:P' a=some (.inst 228 (lI z.A true i (z.kp i)))):Z w (C.link i) [] where
 P:=P'
 A:=z.A
 h:=z.h
 n:=z.n
 kp:=λj=>if j=i then z.kp i else z.kp j
 K:=
  have K:=z.K;have M:=K.mod i a ha nn;have li:(C.link i).lk i=true:=ai rfl;have na:∀{c t p},z.h c=some t->t≠(0,i)->z.P c=some p->P' c=some p:=λq r p=>(hP _ λx=>r (by subst x;exact kr (q.symm.trans M.oa))).trans p
  K.chg ha (λc p t q r s e y=>⟨na q (λe=>r (by rw[e])) e,q⟩) (na K.oW eW K.W) K.oW
   (λc t q=>by
    by_cases x:c=a
    ·exact⟨_,by rw[x];exact hPa,rfl⟩
    ·rw[hP c x];exact K.ry c t q)
   (λj q=>⟨rfl,aa q⟩) rfl ⟨K.wf.base,K.wf.Br,K.wf.us,K.wf.u5,K.wf.nd,K.wf.nc⟩ (eu _) (eu _) rfl (λj y y=>yM rfl 12 j)
   (λj hj=>by
    unfold refsOf at hj;rw[li,ho] at hj;rcases ku hj with h|h
    ·exact K.ref i a ha nn j (by rw[h];exact tG ..)
    ·rcases cy h with h|h
     ·exact K.ref i a ha nn j (jd _ (fh _ h))
     ·rw[cu h];exact⟨b,hb⟩)
   (λj hj=>by
    by_cases q:j=i
    ·exact⟨a,by rw[q];exact ha⟩
    ·exact K.lk j ((aa q).symm.trans hj))
   {at_:=by rw[li];exact hPa,fd:=na M.of eW M.fd,md:=na M.om eW M.md,cd:=na M.oc eW M.cd,xd:=na M.ox eW M.xd,ad:=na M.od eW M.ad
    ent:=λq hq=>⟨na (M.ent q hq).2 eW (M.ent q hq).1,(M.ent q hq).2⟩
    kp:=λkt kl v ln e=>
     have k:=M.kp kt kl v ln e
     ⟨⟨na k.1.2.2.1 eW k.1.1,na k.1.2.2.2 eW k.1.2.1,k.1.2.2⟩,k.2.1,λe=>(k.2.2.1 e).trans (yM rfl 12 i).symm,k.2.2.2⟩
    oa:=M.oa,of:=M.of,om:=M.om,oc:=M.oc,ox:=M.ox,od:=M.od }
theorem Le.link{w':Wc}{C':Cont}{S':List Nat}{z0:Z w' C' S'}{z:Z w C []}(l:Le z0 z)(ha:z.A.ad i=some a)(hl:C.lk i=false)(ho:cU i=some o)(hb:z.A.ad o=some b)(P':PH)(hP:∀ c,c≠a->P' c=z.P c)(hPa:P' a=some (.inst 228 (lI z.A true i (z.kp i)))):Le z0 (z.link ha hl ho hb P' hP hPa):=⟨λc o q r k=>
 have y:=l.fr c o q r k
 ⟨(hP c λx=>by
  rw[<-y.2,x,(z.K.mod i a ha nn).oa] at k;rcases k with k|⟨t,k⟩<;>cases k
  exact absurd (z.K.le _ a ha).2 ()).trans y.1,y.2⟩,l.ad⟩
end
section
variable{m:Nat}{X:XP}{Q:VQ}{w:Wc}{C:Cont}{i j p:Nat}{b c e l:Ad}
theorem yj(z:Z w C [])(h3:z.A.ad 3=some c){pa v:Ad}(hq:∀(z':Z w C []) e k num,lS z z' e k num (eH 14 (.ref v) (m0 (.int num 0) (.ref c) .none (.bool true) (.ref pa) .none k))->Q (.ref e) z'.P):Calls (m+4) 877 [.ref w.W,.none,.bool true,.ref pa,.none,.ref v] z.P X Q:=by refine aB 72 rfl rfl rfl (aU z.K.W oq.1 (by rw[oq.2];trivial) (dD (m:=m+2) (i:=3) z rfl h3 ⟨rfl,rfl,aU z.K.W DB.1 (by rw[DB.2];exact PL w z.n) (iV (m:=m+2) z λe he=>aB 6 rfl rfl rfl (qh he λP2 fd md cd xd ad M hM=>⟨rfl,?_⟩))⟩));let z1:=z.gZ (z.n.N+1) z.n.V z.n.cv (g5 (eu _)) (eu _);have r:lS z (z1.pu P2 M.pu) e (k0 fd md cd xd ad) (z.n.N+1) _:=lS.of (z1:=z1) ((Le.refl z).gZ _ _) rfl rfl M hM rfl;exact bQ hM rfl (cZ rfl) (hq _ e _ _ (r.put (eH 14 (.ref v) (m0 (.int (z.n.N+1) 0) (.ref c) .none (.bool true) (.ref pa) .none (k0 fd md cd xd ad)))))
end
end
theorem AX(k:Nat):∀(C:Cont) (p j:Nat),rk p<rk j->(cV k C p).lk j=C.lk j:=by
 induction k with
 | zero=>exactλy y y y=>rfl
 | succ k ih=>
  intro C p j h;rw[iO];by_cases l:C.lk p=true
  ·rw[ai l]
  ·rw[aa l]
   show(if j=p then true else(Cont.new _ _ _).lk j)=_;rw[aa λq=>absurd h (by rw[q];exact ig _)];cases q:par p with
   | none=>rfl
   | some p'=>exact ih C p' j (gy (iH q).1 h)
section
variable{m:Nat}{w:Wc}
noncomputable abbrev Ue:List Bool:=(fF 9)
theorem Jf{A:k9}{j:Nat}{p:Ad}(h:A.rf (some j)=.ref p):∃ b,A.ad j=some b:=by
 cases q:A.ad j with
 | some b=>exact⟨b,rfl⟩
 | none=>unfold k9.rf at h;rw[jv,q] at h;cases h
theorem A6{X:XP}{Q:VQ}{C0 C:Cont}{i o:Nat}{a c pa:Ad}(z0:Z w C0 [])(z:Z w C [])(l:Le z0 z)(F:jP i o)(V:eK C)(ha:z.A.ad i=some a)(h3:z.A.ad 3=some c)(hl:C.lk i=false)(hp:z.A.rf (par o)=.ref pa)
  (hq:∀(z':Z w ((C.new o dX).link i) []) b,Le z0 z'->z'.A.ad o=some b->(z'.kp o).kp=none->Q (.ref b) z'.P):wpS (m+6) Ue (bV 5 k7) (some (.ref w.W)::some (.ref a)::some (.ref pa)::nN 6) z.P X (λu P'=>Q .none P') Q:=by
 have no:z.A.ad o=none:=by
  have:=z.K.ex o F.lo.1;rw[(V i o F.ow hl).1] at this;cases q:z.A.ad o with
  | none=>rfl
  | some b=>rw[q] at this;cases this
 refine aU z.K.W Rf.1 (by rw[Rf.2];trivial) (yj (m:=m+2) z h3 λz2 e k num r=>?_);have ha2:z2.A.ad i=some a:=by rw[r.A];exact ha
 have M2:=z2.at_ ha2 nn;have o3:qk o=3:=by unfold qk;rw[F.io];rfl
 have es:(z.A.set o e num).rf (par o)=.ref pa:=(o5 (bT no) λj hj=>Jf (Option.mem_toList.mp hj▸hp)).trans hp
 have fin:∀(na:Va) (P3:PH) (z3:Z w C []),lS z z3 e k num [(0,.int num 0),(1,.ref c),(2,.ref k.fd),(3,.none),(4,.bool false),(5,.none),(6,.none),(7,.bool true),(8,.ref pa),(9,.none),(10,.ref k.md),(11,.ref k.cd),(12,.ref k.xd),(13,.ref k.ad),(14,.ref a),(15,na),(16,.none)]->na=jB (nat o)->z3.kp i=z2.kp i->(∀ y,y≠a->P3 y=z3.P y)->P3 a=some (.inst 228 (eH 3 (.ref e) (lI z2.A (C.lk i) i (z2.kp i))))->z3.n=z2.n->wpS (m+6) Ue (bV 7 k7) (some (.ref w.W)::some (.ref a)::some (.ref pa)::nN 6) P3 X (λu P'=>Q .none P') Q:=λna P3 z3 r3 hna hk3 hP3 hA3 n3=>by
  have hr:∀ j∈qk o::((par o).toList++(gU o).toList),∃ b,(z.A.set o e num).ad j=some b:=λj hj=>by
   rcases ku hj with h|h
   ·rw[h,o3];exact⟨c,(bT no _ _ h3).1⟩
   ·rcases cy h with h|h
    ·exact Jf (Option.mem_toList.mp h▸es)
    ·rw[F.ao] at h;rw[cu h];exact⟨a,(bT no _ _ ha).1⟩
  have hf:=u9 (A:=z.A.set o e num) (lk:=false) (i:=o) (k:=k) (num:=.int num 0) (ow:=.ref c) (nm:=.none) (ic:=.bool true) (pa:=.ref pa) (at':=.ref a) (na:=na) (kv:=.none) (by rw[show(z.A.set o e num).num o=num from ai rfl]) (by rw[o3];exact(aQ (bT no _ _ h3).1).symm) rfl (by rw[F.nm];rfl) (by rw[F.io]) es.symm (by rw[F.ao];exact(aQ (bT no _ _ ha).1).symm) hna (by unfold Kp.kv;rw[r3.kn];rfl);let z4:=r3.add no F.lo (V i o F.ow hl).2 hf hr;have l4:Le z z4:=r3.Tq no F.lo (V i o F.ow hl).2 hf hr;have a4:z4.A.ad i=some a:=(l4.ad i a ha).1;have b4:z4.A.ad o=some e:=by show(z3.A.set o e num).ad o=_;exact set_same ..
  have k4:z4.kp i=z2.kp i:=by show(if i=o then k else z3.kp i)=_;rw[aa λq=>by rw[q,no] at ha;cases ha];exact hk3
  have e4:eH 3 (.ref e) (lI z2.A (C.lk i) i (z2.kp i))=lI z4.A true i (z4.kp i):=by have x1:lI z4.A (C.lk i) i (z2.kp i)=lI z2.A (C.lk i) i (z2.kp i):=Io (C:=C) (by rw[r.A];exact l4.ad) ha2 (λj hj=>by rw[r.A];exact z.K.ref i a ha nn j hj) rfl;rw[<-x1,k4,hl];show eH 3 _ _=lI z4.A true i (z2.kp i);unfold lI;show _=_::_::_::(3,z4.A.rf (cU i))::_;rw[F.ow,aQ b4];rfl
  let z5:=z4.link a4 hl F.ow b4 P3 hP3 (by rw[hA3,e4]);refine fO (m:=m+5) z5 ?_;let z6:=z5.gZ z5.n.N (z5.n.V+1) z5.n.cv (eu _) (g5 (eu _));have l6:Le z0 z6:=((l.trans l4).link a4 hl F.ow b4 P3 hP3 (by rw[hA3,e4])).gZ _ _;exact aG (v:=.ref e) (z6.at_ (i:=i) a4 nn) rfl (by show some (OC z4.A i (if i=i then true else C.lk i))=_;rw[ai rfl];show some (z4.A.rf (cU i))=_;rw[F.ow,aQ b4]) rfl (hq z6 e l6 b4 (by show(if o=i then z4.kp i else(if o=o then k else z3.kp o)).kp=none;rw[aa (λq=>(by rw[<-q,no] at ha;cases ha)),ai rfl];exact r3.kn))
 have nea:e≠a:=λq=>by have:=r.c.ua;rw[q,(z2.K.mod i a ha2 nn).oa] at this;cases this
 refine bQ M2 rfl (cZ rfl) ⟨rfl,bS (aA ..) rfl (bt wN (aG (aA ..) rfl rfl (tM _) ⟨mF _,?_⟩))⟩;cases hn:nat i with
 | none=>exact fin .none _ z2 r (by rw[F.nt,hn];rfl) rfl (λy hy=>aD hy) (aA ..) rfl
 | some s=>
  refine aU (aA ..) Gj.1 (by rw[Gj.2];trivial) (aB 7 rfl rfl rfl (aG (v:=.none) (aA ..) rfl (by show some (z2.A.rf (gU i))=_;rw[F.at_];rfl) rfl ⟨rfl,?_⟩));refine aG (v:=.str s 0) (aA ..) rfl (by show some (jB (nat i))=_;rw[hn];rfl) rfl ⟨⟨F.nl s hn,bl⟩,aG (v:=.ref e) (aA ..) rfl rfl rfl (bQ ((aD nea).trans r.c.at_) rfl (cZ rfl) ?_)⟩;refine fin (.str (s++".") 0) _ _ (r.put _) (by rw[F.nt,hn];rfl) rfl (λy hy=>?_) ((aD (gz nea)).trans (aA ..)) rfl;show upd (upd z2.P a _) e _ y=upd z2.P e _ y;by_cases q:y=e
  ·rw[q,aA,aA];rfl
  ·rw[aD q,aD q,aD hy]
end
theorem qZ(k:Nat):∀(C:Cont) (p:Nat),eK C->(∃ q,cU p=some q)->eK (cV k C p):=by
 induction k with
 | zero=>exactλj j V j=>V
 | succ k ih=>
  intro C p V hp;obtain⟨o,ho⟩:=hp;have F:=jP.of ho;rw[iO];by_cases l:C.lk p=true
  ·rw[ai l];exact V
  ·rw[aa l,ho]
   refine eK.step ?_ ho;cases q:par p with
   | none=>exact V
   | some p'=>exact ih C p' V (F.up p' q)
section
variable{m:Nat}{w:Wc}
theorem pQ:∀(k i:Nat) {C:Cont} (z:Z w C []) {a c o:Nat} {X:XP} {Q:VQ},rk i<k->cU i=some o->z.A.ad i=some a->z.A.ad 3=some c->eK C->r9 C->(∀(z':Z w (cV k C i) []) b,Le z z'->z'.A.ad o=some b->(C.lk i=false->(z'.kp o).kp=none)->Q (.ref b) z'.P)->Calls (m+k+7) 544 [.ref w.W,.ref a] z.P X Q:=by
 intro k;induction k with
 | zero=>exactλi j j j j j j j h=>absurd h (j0 _)
 | succ k ih=>
  intro i C z a c o X Q hk ho ha h3 V L hq;have F:=jP.of ho;have M:=z.at_ ha nn;refine aB 35 rfl rfl rfl ⟨rfl,oQ M rfl ⟨rfl,bS M rfl (bt JE ?_)⟩⟩;by_cases hl:C.lk i=true
  ·obtain⟨b,hb,hg⟩:=yO z ha hl (L i hl)
   rw[ho] at hb;have e:cV (k+1) C i=C:=by rw[iO];rw[ai hl]
   rw[e] at hq;exact aG (v:=.ref b) M rfl hg rfl ⟨rfl,aG (v:=.ref b) M rfl hg rfl (hq z b (.refl z) hb λx=>by rw[hl] at x;cases x)⟩
  ·have e:cV (k+1) C i=((match par i with
    | some p=>cV k C p
    | none=>C).new o dX).link i:=by rw[iO,aa hl,ho];rfl
   rw[e] at hq;have hl:C.lk i=false:=by simpa using hl
   have hc:eF 1 (lI z.A (C.lk i) i (z.kp i))=some (.ref c):=by show some (z.A.rf (some (qk i)))=_;unfold qk;rw[F.ic];exact aj some (aQ h3)
   refine aG (v:=.none) M rfl (yT z hl) rfl ⟨rfl,aU z.K.W Sp.1 (by rw[Sp.2];trivial) (tY (m:=m+k+6) M rfl rfl hc rfl ⟨rfl,bS M rfl (bt wN (aG (v:=.bool true) M rfl (by show some (Value.bool (gJ i))=_;rw[F.ic]) rfl (aG M rfl rfl (xV ..) ⟨Jg ..,?_⟩)))⟩)⟩;cases hp:par i with
   | none=>rw[hp] at hq;exact A6 (m:=m+k+1) z z (.refl z) F V ha h3 hl (by rw[F.po,hp];exact aQ h3) λz' b l h k=>hq z' b l h λj=>k
   | some p=>rw[hp] at hq;obtain⟨q,hpq⟩:=F.up p hp;obtain⟨b,hb⟩:=z.K.ref i a ha nn p (iL (mem_some hp));rw[aQ hb];refine aG (v:=.ref b) M rfl (by show some (z.A.rf (par i))=_;rw[hp,aQ hb]) rfl (ih p z (gr (iH hp).1 (jq hk)) hpq hb h3 V L λz1 d l1 hd j=>?_);exact A6 (m:=m+k+1) z z1 l1 F (qZ k C p V ⟨q,hpq⟩) (l1.ad i a ha).1 (l1.ad 3 c h3).1 ((AX k C p i (iH hp).1).trans hl) (by rw[F.po,hp];show z1.A.rf (cU p)=_;rw[hpq,aQ hd]) λz' b l h k=>hq z' b l h λj=>k
end
section
section
variable{w:Wc}{C:Cont}{S:List Nat}{A:k9}{h:eO}{n:Nm}{kp:Nat->Kp}{i:Nat}
noncomputable def PW(mt:List (Str × Ent))(ea:Str->Ad):List (Str × Va):=mt.map λq=>(q.1,.ref (ea q.1))
theorem Core.vA(K:Core w C S P A h n kp)(ha:A.ad i=some a)(hs:i∉S)(t:Nat × Nat):Core w C S (upd P (kp i).md (.dict t (PW (C.c i).mt (kp i).ea))) A h n (λj=>if j=i then { kp i with tg:=t } else kp j):=
 have M:=K.mod i a ha hs;have lt:=(K.le i a ha).2;have na:∀{c t' p},h c=some t'->t'≠(1,i)->P c=some p->upd P (kp i).md (.dict t (PW (C.c i).mt (kp i).ea)) c=some p:=λq r p=>(aD λx=>r (by subst x;exact kr (q.symm.trans M.om))).trans p
 {W:=na K.oW eW K.W,gK:=na K.om eW K.gK,nd:=na K.on eW K.nd,pd:=na K.op eW K.pd,vf:=K.vf,wJ:=K.wJ,ve:=K.ve
  mod:=λj b e s=>by
   by_cases q:j=i
   ·subst q
    cases ha.symm.trans e;rw[ai rfl];exact {
        at_:=na M.oa eW M.at_,fd:=na M.of eW M.fd,md:=aA ..,cd:=na M.oc eW M.cd,xd:=na M.ox eW M.xd,ad:=na M.od eW M.ad
        ent:=λq hq=>⟨na (M.ent q hq).2 eW (M.ent q hq).1,(M.ent q hq).2⟩
        kp:=λkt kl v ln e=>have k:=M.kp kt kl v ln e;⟨⟨na k.1.2.2.1 eW k.1.1,na k.1.2.2.2 eW k.1.2.1,k.1.2.2⟩,k.2⟩
        oa:=M.oa,of:=M.of,om:=M.om,oc:=M.oc,ox:=M.ox,od:=M.od }
   ·rw[aa q]
    refine(K.mod j b e s).move e (K.ref j b e s) (λc o t x y p l=>⟨na x (λz=>?_) p,x⟩) (λu u x=>⟨x,rfl⟩) rfl rfl (eu _) λu=>rfl;subst z;rcases y with y|y
    ·exact q y.symm
    ·exact absurd lt (by rw[show i=99 from y];decide)
  ref:=K.ref,inj:=K.inj,le:=K.le,lk:=K.lk,ex:=K.ex,wf:=K.wf,oW:=K.oW,om:=K.om,on:=K.on,op:=K.op,ry:=λc t q=>stand rfl (K.ry c t q) }
noncomputable def Z.vA(z:Z w C S)(ha:z.A.ad i=some a)(hs:i∉S)(t:Nat × Nat):Z w C S:=⟨_,z.A,z.h,z.n,_,z.K.vA ha hs t⟩
theorem Le.vA{w':Wc}{C':Cont}{S':List Nat}{z0:Z w' C' S'}{z:Z w C S}(l:Le z0 z)(ha:z.A.ad i=some a)(hs:i∉S)(t:Nat × Nat):Le z0 (z.vA ha hs t):=⟨λc o q r k=>
 have y:=l.fr c o q r k
 ⟨(aD λx=>by
  rw[<-y.2,x,(z.K.mod i a ha hs).om] at k;rcases k with k|⟨t,k⟩<;>cases k
  exact absurd (z.K.le _ a ha).2 ()).trans y.1,y.2⟩,l.ad⟩
noncomputable def Z.Sl(z:Z w C S){e:Ad}(u:z.h e=none)(P':PH)(b:Bt z.P P' e):Z w C S:=⟨P',z.A,z.h,z.n,z.kp,z.K.keep λc o j q p j=>b c o (λx=>by rw[x,u] at q;cases q) p⟩
theorem Le.Sl{w':Wc}{C':Cont}{S':List Nat}{z0:Z w' C' S'}{z:Z w C S}(l:Le z0 z){e:Ad}(n:Nw z0 e)(u:z.h e=none)(P':PH)(b:Bt z.P P' e):Le z0 (z.Sl u P' b):=⟨λc o q r k=>have y:=l.fr c o q r k;⟨b c o (λx=>by subst x;exact n o q r k) y.1,y.2⟩,l.ad⟩
end
theorem ET{x:Str}{d:Ent}:∀{mt:List (Str × Ent)},(x,d)∈mt->∃ d',mt.lookup x=some d':=by
 intro mt;induction mt with
 | nil=>exactλh=>absurd h gk
 | cons q mt ih=>
  intro h;rw[f6];cases e:x==q.1 with
  | true=>exact⟨_,rfl⟩
  | false=>refine ih ((ku h).resolve_left λz=>?_);rw[<-z,bg] at e;cases e
theorem Jc{α:Type}{x:Str}{d:α}:∀{l:List (Str × α)},x∉l.map (·.1)->cQ x d l=l++[(x,d)]:=by
 intro rr;induction rr with
 | nil=>exactλj=>rfl
 | cons e r ih=>intro h;rw[zc];rw[aa λq=>h (by rw[<-q];exact .head _),ih λq=>h (.tail _ q)];rfl
section
variable{m:Nat}{X:XP}{Q:VQ}{w:Wc}{C:Cont}{S:List Nat}{i:Nat}{e mde:Ad}{ep:Nat}{fs:List (Nat × Va)}{N:NP}{R:VQ}
structure Cp(P0 P':PH)(mde:Ad)(pre:List (Str × Ent))(ea:Str->Ad)(er:Str->ya)(tg:Nat × Nat):Prop where
 bt:Bt P0 P' mde
 md:P' mde=some (.dict tg (PW pre ea))
 en:∀ q∈pre,P' (ea q.1)=some (.inst 256 (sZ q.2 (er q.1)))/\P0 (ea q.1)=none
theorem xw(z:Z w C S)(ha:z.A.ad i=some a)(hs:i∉S)(ht:(z.kp i).tg=(ep,1))(he:z.P e=some (.inst 228 fs))(hf:eF 10 fs=some (.ref mde)){o0:PO}(hm:z.P mde=some o0)(nm:∀{c o},z.h c≠none->z.P c=some o->c≠mde)(nme:e≠mde){gm:Ad}{gv:List (Str × Va)}(hg:z.P gm=some (.dict (ep,1) gv))(hgo:z.h gm≠none):
  ∀(rest pre:List (Str × Ent)) (P':PH) (ea:Str->Ad) (er:Str->ya) (tg:Nat × Nat) (v2 v3:Op Va),(C.c i).mt=pre++rest->Cp z.P P' mde pre ea er tg->(∀ P' ea er tg v2 v3,Cp z.P P' mde (C.c i).mt ea er tg->N [some (.ref a),some (.ref e),v2,v3,none,none] P')->cL (λv l P' k=>wpS (m+4) (fF 6) (match jU with|.seq _ (.seq _ (.seq (.loop _ _ b) _))=>b|_=>.skip) (l.set 2 (some v)) (jV (fF 6) 2 P') X k R) (λP'=>P' gm=some (.dict (ep,1) gv)) (rest.map λq=>.str q.1 0) [some (.ref a),some (.ref e),v2,v3,none,none] P' N
 | [],pre,P',ea,er,tg,v2,v3,hp,c,h=>by rw[jk] at hp;exact h P' ea er tg v2 v3 (by rw[hp];exact c)
 | q::rest,pre,P',ea,er,tg,v2,v3,hp,c,h=>by
  have M:=z.K.mod i a ha hs;have mem:q∈(C.c i).mt:=by rw[hp];exact fq _ (.head _)
  have nd:=(z.K.wf.nd i).1;have ow:∀{c' t o},z.h c'=some t->z.P c'=some o->P' c'=some o:=λq p=>c.bt _ _ (nm (by rw[q];intro x;cases x) p) p;have pa:=ow M.oa M.at_;have pm:=ow M.om M.md;rw[ht] at pm;have pe:=ow (M.ent q mem).2 (M.ent q mem).1;obtain⟨d',hd⟩:=ET mem;have nq:q.1∉pre.map (·.1)/\(pre.map (·.1)).Nodup:=by rw[hp,i8,List.nodup_append] at nd;exact⟨λx=>nd.2.2 _ x _ (.head _) rfl,nd.1⟩
  refine aG (v:=.ref (z.kp i).md) pa rfl rfl rfl λj=>aO (v:=.ref ((z.kp i).ea q.1)) pm (by rw[Cg,hd];rfl) (aU pe K3.1 (by rw[K3.2];trivial) (aG (v:=.str ((z.kp i).er q.1).nm 0) pe rfl rfl rfl (Km (m:=m+1) pe λP2 f (p2:Pu P' P2) (hf2:P' f=none) h2=>?_)));have pe2:P2 e=some (.inst 228 fs):=p2 _ _ (c.bt _ _ nme he);have pl:(PW pre ea).length<big:=by have h1:=z.K.wf.Iv i;rw[hp,gu] at h1;show(pre.map _).length<_;rw[ef];unfold big;lia
  refine aG (v:=.ref mde) pe2 ⋯ hf rfl (cW (p2 _ _ c.md) pl ?_);have bt2:Bt z.P (upd P2 mde (.dict (0,0) (cT q.1 (.ref f) (PW pre ea)))) mde:=(c.bt.trans λc' o' j x=>p2 c' o' x).put _;have fm:f≠mde:=λx=>by rw[x,c.md] at hf2;cases hf2
  have zf:z.P f=none:=c.bt.fresh hm (by rw[c.md];intro x;cases x) hf2;have ne:∀{c' o'},P' c'=some (.inst 256 o')->c'≠mde:=λp x=>by rw[x,c.md] at p;cases p
  refine⟨bt2 _ _ (nm hgo hg) hg,xw z ha hs ht he hf hm nm nme hg hgo rest (pre++[q]) _ (λy=>if y=q.1 then f else ea y) (λy=>if y=q.1 then⟨((z.kp i).er q.1).nm,e,((z.kp i).er q.1).nt⟩ else er y) (0,0) _ _ (by rw[hp,i0];rfl) ⟨bt2,(aA ..).trans ?_,λy hy=>?_⟩ h⟩
  ·have:=qo (x:=q.1) (d:=q.2) (v:=.ref f) (g:=λq=>.ref (ea q.1)) (g':=λy=>.ref (if y.1=q.1 then f else ea y.1)) nq.2 (aj Value.ref (ai rfl)) λy j n=>aj Value.ref (aa n)
   rw[Jc nq.1] at this;exact aj (λv=>some (PO.dict (0,0) v)) this
  ·rcases cy hy with hy|hy
   ·have n:y.1≠q.1:=λx=>nq.1 (List.mem_map.mpr ⟨y,hy,x⟩)
    rw[aa n,aa n];exact⟨(aD (ne (c.en y hy).1)).trans (p2 _ _ (c.en y hy).1),(c.en y hy).2⟩
   ·rw[cu hy,ai rfl,ai rfl]
    exact⟨(aD fm).trans h2,zf⟩
end
end
section
section
variable{w:Wc}{C:Cont}{S:List Nat}{A:k9}{h h':eO}{n:Nm}{kp:Nat->Kp}{i:Nat}{x:Ad}{k:Kp}{fs:List (Nat × Va)}{ml ml' cl cl':List (Str × Va)}{xl al:List Va}
theorem Core.mark(K:Core w C S P A h n kp)(hh:∀ c t,h c=some t->h' c=some t)(hs:∀ c t,h' c=some t->∃ o,P c=some o/\o.bR=false):Core w C S P A h' n kp:=
 {W:=K.W,gK:=K.gK,nd:=K.nd,pd:=K.pd,vf:=K.vf,wJ:=K.wJ,ve:=K.ve,mod:=λj b e s=>(K.mod j b e s).move e (K.ref j b e s) (λc o t x q p q=>⟨p,hh c t x⟩) (λq q x=>⟨x,rfl⟩) rfl rfl (eu _) λq=>rfl
  ref:=K.ref,inj:=K.inj,le:=K.le,lk:=K.lk,ex:=K.ex,wf:=K.wf,oW:=hh _ _ K.oW,om:=hh _ _ K.om,on:=hh _ _ K.on,op:=hh _ _ K.op,ry:=hs }
noncomputable def Il(h:eO)(L:List Ad):eO:=λc=>if c∈L then some (9,99) else h c
noncomputable def Z.DA(z:Z w C S)(L:List Ad)(u:∀ c∈L,z.h c=none/\∃ fs,z.P c=some (.inst 256 fs)):Z w C S:=⟨z.P,z.A,Il z.h L,z.n,z.kp,z.K.mark (λc t q=>(aa λm=>by rw[(u c m).1] at q;cases q).trans q) λc t q=>by
 by_cases m:c∈L
 ·exact(u c m).2.elim λfs e=>⟨_,e,rfl⟩
 ·exact z.K.ry c t ((aa m).symm.trans q)⟩
theorem Le.DA{w':Wc}{C':Cont}{S':List Nat}{z0:Z w' C' S'}{z:Z w C S}(l:Le z0 z)(L:List Ad)(u:∀ c∈L,z.h c=none/\∃ fs,z.P c=some (.inst 256 fs))(nw:∀ c∈L,Nw z0 c):Le z0 (z.DA L u):=⟨λc o q r k=>have y:=l.fr c o q r k;⟨y.1,(aa λm=>nw c m o q r k).trans y.2⟩,l.ad⟩
theorem Cells.mark(c:Cells P h a k fs ml cl xl al){L:List Ad}(p:∀ c∈L,∃ fs,P c=some (.inst 256 fs)):Cells P (Il h L) a k fs ml cl xl al:=
 have f:∀{y o},P y=some o->(∀ fs,o≠.inst 256 fs)->Il h L y=h y:=λe n=>aa λm=>(p _ m).elim λfs q=>n fs (kr (e.symm.trans q))
 {c with
  ua:=(f c.at_ λj q=>by cases q).trans c.ua,uf:=(f c.fd λj q=>by cases q).trans c.uf,um:=(f c.md λj q=>by cases q).trans c.um
  uc:=(f c.cd λj q=>by cases q).trans c.uc,ux:=(f c.xd λj q=>by cases q).trans c.ux,ud:=(f c.ad λj q=>by cases q).trans c.ud }
theorem Cells.TH(c:Cells P h a k fs ml cl xl al)(b:Bt P P' k.md){tg:Nat × Nat}(hm:P' k.md=some (.dict tg ml'))(ea:Str->Ad)(er:Str->ya):Cells P' h a { k with tg:=tg,ea:=ea,er:=er } fs ml' cl xl al:=
 {at_:=b _ _ (nU c.at_ c.md xR) c.at_,fd:=b _ _ c.d1 c.fd,md:=hm,cd:=b _ _ (gz c.d3) c.cd,xd:=b _ _ (nU c.xd c.md xR) c.xd,ad:=b _ _ (nU c.ad c.md xR) c.ad
  ua:=c.ua,uf:=c.uf,um:=c.um,uc:=c.uc,ux:=c.ux,ud:=c.ud,d1:=c.d1,d2:=c.d2,d3:=c.d3,d4:=c.d4 }
theorem Cells.TF(c:Cells P h a k fs ml cl xl al)(hx:P x=some (.dict (0,0) cl'))(u:h x=none)(n1:k.fd≠x)(n2:k.md≠x):Cells P h a { k with cd:=x } fs ml cl' xl al:={ c with cd:=hx,uc:=u,d2:=n1,d3:=n2 }
theorem Cells.TA(c:Cells P h a k fs ml cl xl al)(hx:P x=some (.list (0,0) vs))(u:h x=none)(n:k.xd≠x):Cells P h a { k with ad:=x } fs ml cl xl vs:={ c with ad:=hx,ud:=u,d4:=n }
theorem Cells.TG(c:Cells P h a k fs ml cl xl al)(hx:P x=some (.dict (0,0) []))(u:h x=none)(n1:x≠k.md)(n2:x≠k.cd):Cells P h a { k with fd:=x } fs ml cl xl al:={ c with fd:=hx,uf:=u,d1:=n1,d2:=n2 }
end
noncomputable def wk(num ow nm ic pa at' na kv:Va)(k:Kp):List (Nat × Va):=[(0,num),(1,ow),(2,.ref k.fd),(3,.none),(4,.bool false),(5,.none),(6,nm),(7,ic),(8,pa),(9,.none),(10,.ref k.md),(11,.ref k.cd),(12,.ref k.xd),(13,.ref k.ad),(14,at'),(15,na),(16,kv)]
section
variable{m:Nat}{X:XP}{Q:VQ}{w:Wc}{C:Cont}{S:List Nat}{i:Nat}{e:Ad}{num ow nm ic pa at' na kv:Va}{cl:List (Str × Va)}{xl al:List Va}{k:Kp}
structure Copied{w0:Wc}{C0:Cont}{S0:List Nat}(z0:Z w0 C0 S0)(z':Z w C S)(i:Nat)(e:Ad)(k:Kp)(fs:List (Nat × Va)):Prop where
 le:Le z0 z'
 nw:CR z0 e k
 c:Cells z'.P z'.h e k fs (PW (C.c i).mt k.ea) ((C.c i).ct.map λq=>(q.1,.int q.2 0)) (z'.A.dB (C.c i).mx) (z'.A.dB (C.c i).ah)
 en:∀ q∈(C.c i).mt,z'.P (k.ea q.1)=some (.inst 256 (sZ q.2 (k.er q.1)))/\z'.h (k.ea q.1)=some (9,99)
theorem nV{w0:Wc}{C0:Cont}{S0:List Nat}(z0:Z w0 C0 S0)(z:Z w C S)(l0:Le z0 z)(ha:z.A.ad i=some a)(hs:i∉S)(nw:CR z0 e k)(c0:Cells z.P z.h e k (wk num ow nm ic pa at' na kv k) [] cl xl al)
  (hq:∀(z':Z w C S) k',k'.kp=k.kp->k'.fd=k.fd->z'.A=z.A->z'.n=z.n->Copied z0 z' i e k' (wk num ow nm (.bool (gJ i)) (z.A.rf (par i)) at' (if (gU i).isNone then jB (nat i) else na) kv k')->Q .none z'.P):Calls (m+5) 422 [.ref a,.ref e] z.P X Q:=by
 have M:=z.at_ ha hs;have c1:=c0.put (wk num ow nm (.bool (gJ i)) pa at' na kv k);have c2:=c1.put (wk num ow nm (.bool (gJ i)) (z.A.rf (par i)) at' na kv k);let z1:=z.put e (.inst 228 (wk num ow nm (.bool (gJ i)) pa at' na kv k)) c0.ua;let z2:=z1.put e (.inst 228 (wk num ow nm (.bool (gJ i)) (z.A.rf (par i)) at' na kv k)) c0.ua;have l2:Le z0 z2:=(l0.put _ nw.n0 c0.ua).put _ nw.n0 c0.ua;refine aB 20 rfl rfl rfl (aG (v:=.bool (gJ i)) M rfl rfl rfl (aG M rfl rfl (xV ..) (bQ c0.at_ rfl (cZ rfl) (bQ c1.at_ rfl (cZ rfl) (aU (z2.at_ ha hs) Gj.1 (by rw[Gj.2];trivial) (lX (m:=m+3) z2 ha hs ?_))))))
 have rest:∀(z3:Z w C S) (na':Va),Le z0 z3->z3.A=z.A->z3.n=z.n->Cells z3.P z3.h e k (wk num ow nm (.bool (gJ i)) (z.A.rf (par i)) at' na' kv k) [] cl xl al->(if (gU i).isNone then jB (nat i) else na)=na'->wpS (m+4) (fF 6) (bV 2 jU) (some (.ref a)::some (.ref e)::nN 4) z3.P X (λy P'=>Q .none P') Q:=λz3 na' l3 A3 n3 c3 hna=>by
  have ha3:z3.A.ad i=some a:=by rw[A3];exact ha
  have M3:=z3.K.mod i a ha3 hs;refine aG (v:=.ref (z3.kp i).md) M3.at_ rfl rfl rfl (OE M3.md ⟨k6 (fu (gi (ef ..)) (z3.K.wf.Iv i)) (),λep=>?_⟩);let zt:=z3.vA ha3 hs (ep,1);have lt:Le z0 zt:=l3.vA ha3 hs (ep,1);have ct:=c3.le ((Le.refl z3).vA ha3 hs (ep,1));have kt:zt.kp i={ z3.kp i with tg:=(ep,1) }:=ai rfl;have hit:((C.c i).mt.map λq=>(q.1,Value.ref ((z3.kp i).ea q.1))).map (λe=>Value.str e.1 0)=(C.c i).mt.map λq=>.str q.1 0:=by rw[ir];rfl
  rw[hit];have nmd:∀{c o},zt.h c≠none->zt.P c=some o->c≠k.md:=λq y x=>q (by rw[x];exact ct.um);refine xw (m:=m) zt ha3 hs (by rw[kt]) ct.at_ rfl ct.md nmd (nU ct.at_ ct.md xR) (aA ..) (by show z3.h _≠none;rw[M3.om];intro q;cases q) (C.c i).mt [] zt.P (λy=>0) (λy=>⟨"",0,0⟩) k.tg none none rfl ⟨Bt.refl _ _,ct.md,λq hq=>absurd hq gk⟩ λP4 ea er tg v2 v3 cp=>?_;let z5:=zt.Sl ct.um P4 cp.bt;have l5:Le z0 z5:=lt.Sl nw.n2 ct.um P4 cp.bt;have c5:=ct.TH cp.bt cp.md ea er;have M5:=z5.K.mod i a ha3 hs;have fr:∀{P':PH} {c f:Ad} {o:PO},P' c=some o->P' f=none->c≠f:=λp q x=>by rw[x,q] at p;cases p
  refine aG (v:=.ref (z5.kp i).cd) M5.at_ rfl rfl rfl (cW M5.cd (k6 (fu (gi (ef ..)) (z3.K.wf.Sn i)) ()) λf hf=>?_);let z6:=z5.new f (.dict (0,0) ((C.c i).ct.map λq=>(q.1,.int q.2 0))) hf;have c6:Cells z6.P z6.h e { k with tg:=tg,ea:=ea,er:=er,cd:=f } _ _ _ _ _:=((c5:Cells z5.P z5.h _ _ _ _ _ _ _).le ((Le.refl z5).new (.dict (0,0) ((C.c i).ct.map λq=>(q.1,.int q.2 0))) hf)).TF (aA ..) (z5.un hf) (fr c5.fd hf) (fr c5.md hf);have c7:=c6.put (wk num ow nm (.bool (gJ i)) (z.A.rf (par i)) at' na' kv { k with cd:=f });let z7:=z6.put e (.inst 228 (wk num ow nm (.bool (gJ i)) (z.A.rf (par i)) at' na' kv { k with cd:=f })) c6.ua;have l7:Le z0 z7:=(l5.new _ hf).put _ nw.n0 c6.ua;have M7:=z7.K.mod i a ha3 hs;refine bQ c6.at_ rfl (cZ rfl) (aG (v:=.ref (z7.kp i).xd) M7.at_ rfl rfl rfl (tE M7.xd (wI (cJ _ (z3.K.wf.us i).1)) λg hg=>?_));let z8:=z7.new g (.list (0,0) (z7.A.dB (C.c i).mx)) hg;have c8:Cells z8.P z8.h e { k with tg:=tg,ea:=ea,er:=er,cd:=f,xd:=g } _ _ _ _ _:=((c7:Cells z7.P z7.h _ _ _ _ _ _ _).le ((Le.refl z7).new (.list (0,0) (z7.A.dB (C.c i).mx)) hg)).Rp (aA ..) (z7.un hg) (gz (fr c7.ad hg));have l8:Le z0 z8:=l7.new _ hg;have M8:=z8.K.mod i a ha3 hs;refine aG (v:=.ref (z8.kp i).ad) M8.at_ rfl rfl rfl (tE M8.ad (wI (cJ _ (z3.K.wf.us i).2)) λj hj=>?_);let z9:=z8.new j (.list (0,0) (z8.A.dB (C.c i).ah)) hj;have c9:Cells z9.P z9.h e { k with tg:=tg,ea:=ea,er:=er,cd:=f,xd:=g,ad:=j } _ _ _ _ _:=((c8:Cells z8.P z8.h _ _ _ _ _ _ _).le ((Le.refl z8).new (.list (0,0) (z8.A.dB (C.c i).ah)) hj)).TA (aA ..) (z8.un hj) (fr c8.xd hj);have l9:Le z0 z9:=l8.new _ hj;have c10:=c9.put (wk num ow nm (.bool (gJ i)) (z.A.rf (par i)) at' na' kv { k with cd:=f,xd:=g });have c11:=c10.put (wk num ow nm (.bool (gJ i)) (z.A.rf (par i)) at' na' kv { k with cd:=f,xd:=g,ad:=j });let z10:=z9.put e (.inst 228 (wk num ow nm (.bool (gJ i)) (z.A.rf (par i)) at' na' kv { k with cd:=f,xd:=g })) c9.ua;let z11:=z10.put e (.inst 228 (wk num ow nm (.bool (gJ i)) (z.A.rf (par i)) at' na' kv { k with cd:=f,xd:=g,ad:=j })) c9.ua;have l11:Le z0 z11:=(l9.put _ nw.n0 c9.ua).put _ nw.n0 c9.ua
  have pe:∀ q∈(C.c i).mt,z11.P (ea q.1)=some (.inst 256 (sZ q.2 (er q.1)))/\z11.h (ea q.1)=none/\Nw z0 (ea q.1):=λq hq=>
   have p:=cp.en q hq;have n:ea q.1≠e:=nU p.1 c5.at_ (by intro x;cases x)
   ⟨(aD n).trans ((aD n).trans (aI (aI ((aD n).trans (aI p.1 hf)) hg) hj)),zt.un p.2,(Nw.none zt p.2).of lt⟩
  have pL:∀ c∈(C.c i).mt.map λq=>ea q.1,(z11.h c=none/\∃ fs,z11.P c=some (.inst 256 fs))/\Nw z0 c:=λc hc=>(List.mem_map.mp hc).elim λq hq=>by rw[<-hq.2];exact⟨⟨(pe q hq.1).2.1,_,(pe q hq.1).1⟩,(pe q hq.1).2.2⟩
  let z12:=z11.DA ((C.c i).mt.map λq=>ea q.1) λc hc=>(pL c hc).1;have l12:Le z0 z12:=l11.DA _ _ λc hc=>(pL c hc).2;refine bQ c9.at_ rfl (cZ rfl) (bQ c10.at_ rfl (cZ rfl) (hq z12 { k with tg:=tg,ea:=ea,er:=er,cd:=f,xd:=g,ad:=j } rfl rfl A3 n3 ⟨l12,⟨nw.n0,nw.n1,nw.n2,(Nw.none z5 hf).of l5,(Nw.none z7 hg).of l7,(Nw.none z8 hj).of l8⟩,?_,λq hq=>⟨(pe q hq).1,ai (List.mem_map.mpr ⟨q,hq,rfl⟩)⟩⟩));rw[hna];exact c11.mark λc hc=>(pL c hc).1.2
 by_cases hn:(gU i).isNone=true
 ·refine bf (by rw[hn];rfl) (aG (v:=jB (nat i)) (z2.at_ ha hs) rfl rfl (tM _) (bQ c2.at_ rfl (cZ rfl) ?_))
  exact rest (z2.put e _ c2.ua) (jB (nat i)) (l2.put _ nw.n0 c2.ua) rfl rfl (c2.put _) (by rw[hn];rfl)
 ·exact bt (by rw[Bool.eq_false_iff.mpr hn];rfl) (rest z2 na l2 rfl rfl c2 (aa hn))
end
end
section
variable{w:Wc}{C C':Cont}{S:List Nat}{A:k9}{h h':eO}{n:Nm}{kp:Nat->Kp}{i:Nat}{x:Ad}{k:Kp}
theorem AK{q:Nat}(hq:∀ j,par j≠some q)(hc:∀ j,j≠q->C'.c j=C.c j):∀ k i,i≠q->jJ C' k i=jJ C k i:=by
 intro rr;induction rr with
 | zero=>exactλy y=>rfl
 | succ k ih=>
  intro i n;show eG C' _ i=eG C _ i;unfold eG mG;rw[hc i n];cases e:par i with
  | none=>rfl
  | some p=>dsimp only;rw[ih p λz=>hq i (z▸e)]
theorem za(q:Nat)(hq:q=14\/q=21)(j:Nat):par j≠some q:=by
 have key:∀ j,j<22->par j≠some 14/\par j≠some 21:=⋯;by_cases hj:j<22
 ·rcases hq with rfl|rfl
  ·exact(key j hj).1
  ·exact(key j hj).2
 ·intro h
  unfold par at h;rw[ji (Nat.le_of_not_lt hj)] at h;cases h
noncomputable def Gk(h:eO)(i:Nat):eO:=λc=>match h c with
 | some t=>if t.2=i then none else some t
 | none=>none
theorem nK{c:Ad}{t:Tag}(e:h c=some t)(n:t.2≠i):Gk h i c=some t:=by unfold Gk;rw[e];exact aa n
theorem kG{c:Ad}{t:Tag}(e:h c=some t)(n:t.2=i):Gk h i c=none:=by unfold Gk;rw[e];exact ai n
theorem PD{c:Ad}{t:Tag}(e:Gk h i c=some t):h c=some t:=by
 unfold Gk at e;cases q:h c with
 | none=>rw[q] at e;cases e
 | some t'=>
  rw[q] at e;dsimp only at e;split at e
  ·cases e
  ·exact e
theorem Core.x9(K:Core w C [] P A h n kp)(hi:i<22)(hc:∀ j,j≠i->C'.c j=C.c j)(he:C'.ex=C.ex)(hlk:C'.lk=C.lk)(W:jQ C')(hp:∀ j,par j≠some i):Core w C' [i] P A (Gk h i) n kp:=
 have n50:∀{x:Nat},(x,50).2≠i:=λq=>absurd hi (by rw[show i=50 from q.symm];decide);have nn':∀{j},j∉[i]->j≠i:=λs q=>s (by rw[q];exact .head _)
 {W:=K.W,gK:=K.gK,nd:=K.nd,pd:=K.pd,vf:=K.vf,wJ:=K.wJ,ve:=K.ve
  mod:=λj b e s=>by
   have q:=nn' s;refine(K.mod j b e nn).move e (K.ref j b e nn) (λc o t x y p u=>⟨p,nK x λz=>?_⟩) (λu u x=>⟨x,rfl⟩) (by rw[hlk]) (hc j q) (eu _) λu=>AK hp hc 12 j q;rcases y with y|y
   ·exact q (y.symm.trans z)
   ·exact absurd hi (by rw[<-z,y];decide)
  ref:=λj b e s=>by
   have:=K.ref j b e nn;unfold refsOf at this ⊢
   rwa [hc j (nn' s),hlk]
  inj:=K.inj,le:=K.le,lk:=λj q=>K.lk j (by rwa [hlk] at q),ex:=λj q=>by rw[he];exact K.ex j q
  wf:=W,oW:=nK K.oW n50,om:=nK K.om n50,on:=nK K.on n50,op:=nK K.op n50,ry:=λc t q=>K.ry c t (PD q) }
noncomputable def Z.x9(z:Z w C [])(hi:i<22)(hc:∀ j,j≠i->C'.c j=C.c j)(he:C'.ex=C.ex)(hlk:C'.lk=C.lk)(W:jQ C')(hp:∀ j,par j≠some i):Z w C' [i]:=⟨z.P,z.A,Gk z.h i,z.n,z.kp,z.K.x9 hi hc he hlk W hp⟩
theorem Le.x9{w':Wc}{C0:Cont}{S':List Nat}{z0:Z w' C0 S'}{z:Z w C []}(l:Le z0 z)(hi:i<22)(hc:∀ j,j≠i->C'.c j=C.c j)(he:C'.ex=C.ex)(hlk:C'.lk=C.lk)(W:jQ C')(hp:∀ j,par j≠some i):Le z0 (z.x9 hi hc he hlk W hp):=
 ⟨λc o q r k=>have y:=l.fr c o q r k;⟨y.1,by
  rw[<-y.2];rw[<-y.2] at k;rcases k with k|⟨t,k⟩
  ·show Gk z.h i c=_;unfold Gk;rw[k]
  ·show Gk z.h i c=_;rw[k];exact nK k λz=>absurd hi (by rw[show i=99 from z.symm];decide)⟩,l.ad⟩
theorem Z.cellsOf(z:Z w C [])(ha:z.A.ad i=some a){o:Co}(ho:(C.c i)=o):Cells z.P (Gk z.h i) a (z.kp i) (lI z.A (C.lk i) i (z.kp i)) (o.mt.map λq=>(q.1,.ref ((z.kp i).ea q.1))) (o.ct.map λq=>(q.1,.int q.2 0)) (z.A.dB o.mx) (z.A.dB o.ah):=by have M:=z.K.mod i a ha nn;have ne:∀{c c':Ad} {t t':Tag},z.h c=some t->z.h c'=some t'->t≠t'->c≠c':=λp q r x=>r (by subst x;exact kr (p.symm.trans q));rw[<-ho];exact⟨M.at_,M.fd,M.md,M.cd,M.xd,M.ad,kG M.oa rfl,kG M.of rfl,kG M.om rfl,kG M.oc rfl,kG M.ox rfl,kG M.od rfl,ne M.of M.om eW,ne M.of M.oc eW,ne M.om M.oc eW,ne M.ox M.od eW⟩
theorem Z.TN(z:Z w C [])(ha:z.A.ad i=some a):CR z a (z.kp i):=by
 have M:=z.K.mod i a ha nn;have lt:=(z.K.le i a ha).2
 have ne:∀{c x},z.h c=some (x,i)->Nw z c:=λp o q q k=>by
  rw[p] at k;rcases k with k|⟨t,k⟩
  ·cases k
  ·exact absurd lt (by rw[show i=99 from aj Prod.snd (kr k)];decide)
 exact⟨ne M.oa,ne M.of,ne M.om,ne M.oc,ne M.ox,ne M.od⟩
end
theorem CB:lC 228 62=false/\lC 228 82=false/\lC 228 120=false/\lC 228 140=false/\lC 228 181=false/\lC 228 161=false/\lC 228 201=false:=⋯
noncomputable def kN(C:Cont):Cont:=C.new 14 (C.c 13)
section
variable{m:Nat}{X:XP}{Q:VQ}{w:Wc}{C:Cont}{i:Nat}{b c e:Ad}{num:Int}{k:Kp}{v0:Va}
theorem zU(z0 z:Z w C [])(l0:Le z0 z)(ha:z.A.ad i=some a)(hat:gU i=none)(nw:CR z0 e k)(c0:Cells z.P z.h e k (wk (.int num 0) (.ref c) .none (.bool true) (.ref b) .none .none .none k) [] [] [] [])(hk:k.kp=none)
  (hq:∀(z':Z w C []) k',k'.kp=none->z'.A=z.A->z'.n=z.n->Copied z0 z' i e k' (wk (.int num 0) (.ref c) .none (.bool (gJ i)) (z.A.rf (par i)) .none (jB (nat i)) .none k')->Q .none z'.P):Calls (m+6) 408 [.ref a,.ref e] z.P X Q:=by
 have M:=z.K.mod i a ha nn;refine fS 19 rfl rfl rfl (aG (v:=.ref (z.kp i).fd) M.at_ rfl rfl rfl (cW M.fd bl λf hf=>?_));have c1:=(c0.le ((Le.refl z).new (.dict (0,0) []) hf)).TG (x:=f) (aA ..) (z.un hf) (λx=>by rw[x,c0.md] at hf;cases hf) (λx=>by rw[x,c0.cd] at hf;cases hf);have c2:=c1.put (wk (.int num 0) (.ref c) .none (.bool true) (.ref b) .none .none .none { k with fd:=f });let z1:=z.new f (.dict (0,0) []) hf;let z2:=z1.put e (.inst 228 (wk (.int num 0) (.ref c) .none (.bool true) (.ref b) .none .none .none { k with fd:=f })) c1.ua;have l2:Le z0 z2:=(l0.new _ hf).put _ nw.n0 c1.ua;have nw2:CR z0 e { k with fd:=f }:=⟨nw.n0,(Nw.none z hf).of l0,nw.n2,nw.n3,nw.n4,nw.n5⟩
 have M2:=z2.at_ ha nn;refine bQ c1.at_ rfl (cZ rfl) ⟨rfl,bS M2 rfl (bf CB.1 ⟨rfl,bS M2 rfl (bf CB.2.1 ⟨rfl,bS M2 rfl (bf CB.2.2.1 ⟨rfl,bS M2 rfl (bf CB.2.2.2.1 ⟨rfl,bS M2 rfl (bf CB.2.2.2.2.1 ⟨rfl,bS M2 rfl (bf CB.2.2.2.2.2.1 ⟨rfl,bS M2 rfl (bt wN ?_)⟩)⟩)⟩)⟩)⟩)⟩)⟩;refine nV (m:=m) z0 z2 l2 ha nn nw2 c2 λz3 k3 k3n j A3 n3 cp=>?_;refine hq z3.drop k3 (k3n.trans hk) A3 n3 ?_;rw[hat] at cp;exact⟨cp.le.drop,cp.nw,cp.c.le (Le.refl z3).drop,λq hq=>⟨cR (cp.en q hq).1 rfl,(cp.en q hq).2⟩⟩
theorem rT{j:Nat}(h:j≠14):(kN C).c j=C.c j:=aa h
theorem xA:(kN C).c 14=C.c 13:=rfl
theorem jQ.dup(W:jQ C):jQ (kN C) where
 base:=λj h=>by rw[rT (by lia)];exact W.base j h
 Br:=λj h=>by rw[rT (by lia)];exact W.Br j h
 us:=λj=>by
  by_cases q:j=14
  ·rw[q,xA];exact W.us 13
  ·rw[rT q];exact W.us j
 u5:=λj h=>by
  by_cases q:j=14
  ·rw[q,xA];exact W.u5 13 ()
  ·rw[rT q];exact W.u5 j h
 nd:=λj=>by
  by_cases q:j=14
  ·rw[q,xA];exact W.nd 13
  ·rw[rT q];exact W.nd j
 nc:=λj=>by
  by_cases q:j=14
  ·rw[q,xA];exact W.nc 13
  ·rw[rT q];exact W.nc j
theorem xm(z:Z w C [])(ha:z.A.ad 13=some a)(h3:z.A.ad 3=some c)(h1:z.A.ad 1=some b)(n14:z.A.ad 14=none)(hq:∀(z':Z w (kN C) []) e,Le z z'->z'.A.ad 14=some e->Q (.ref e) z'.P):Calls (m+8) 429 [.ref w.W,.ref a] z.P X Q:=by
 have M:=z.at_ ha nn;have hc:eF 1 (lI z.A (C.lk 13) 13 (z.kp 13))=some (.ref c):=aj some (aQ h3);refine aB 21 rfl rfl rfl ⟨rfl,bS M rfl (bt JE ⟨rfl,bS M rfl (bf CB.2.2.2.2.2.2 (aU z.K.W MZ.1 (by rw[MZ.2];exact Mj w z.n) (aU z.K.W Sp.1 (by rw[Sp.2];trivial) (tY (m:=m+6) M rfl rfl hc rfl (nY (m:=m+3) z h3 h1 λz1 e k num r=>?_)))))⟩)⟩;have ha1:z1.A.ad 13=some a:=by rw[r.A];exact ha
 refine zU (m:=m+1) z z1 r.le ha1 rfl r.nw r.c r.kn λz2 k2 k2n A2 n2 cp=>?_;have A20:z2.A=z.A:=A2.trans r.A;have n20:z2.A.ad 14=none:=by rw[A20];exact n14
 have ex:∀ j∈refsOf C 13,∃ b,z2.A.ad j=some b:=λj hj=>by rw[A20];exact z.K.ref 13 a ha nn j hj
 have so:=bT (a:=e) (num:=num) n20
 have fe:wk (.int num 0) (.ref c) .none (.bool (gJ 13)) (z1.A.rf (par 13)) .none (jB (nat 13)) .none k2=lI (z2.A.set 14 e num) false 14 k2:=
  u9 (A:=z2.A.set 14 e num) (lk:=false) (i:=14) (k:=k2) (by rw[show(z2.A.set 14 e num).num 14=num from rfl]) (aQ (so _ _ (by rw[A20];exact h3)).1).symm rfl rfl rfl
   (by rw[<-A2];exact(o5 (o:=par 13) so λj hj=>ex j (iL hj)).symm) rfl rfl (by unfold Kp.kv;rw[k2n];rfl)
 have hr:∀ j∈qk 14::((par 14).toList++(gU 14).toList++(C.c 13).mx++(C.c 13).ah),∃ b,(z2.A.set 14 e num).ad j=some b:=λj hj=>(ex j (by
  unfold refsOf;have:qk 14=qk 13/\par 14=par 13/\gU 14=gU 13:=⋯;rw[this.1,this.2.1,this.2.2] at hj;rcases ku hj with h|h
  ·rw[h];exact .head _
  ·exact .tail _ (fh _ h))).imp λb x=>(so j b x).1
 have rs:∀ l,(∀ j∈l,∃ b,z2.A.ad j=some b)->z2.A.dB l=(z2.A.set 14 e num).dB l:=λl hl=>(zh so hl).symm
 let z3:=z2.Gv (i:=14) (e:=e) (num:=num) (k:=k2) (o:=C.c 13) n20 () (by rw[n2];exact r.Tp) (by rw[A20];exact r.fr) z2.K.wf.dup (λj b hj=>AK (za 14 (.inl rfl)) (λj h=>rT h) 12 j λq=>by rw[q,n20] at hj;cases hj)
  (cp.c.cast fe rfl rfl (rs _ λj hj=>ex j (u7 hj)) (rs _ λj hj=>ex j (u6 hj))) cp.en k2n hr
 exact hq z3 e (cp.le.Gv (num:=num) cp.nw n20 rfl rfl rfl) (set_same ..)
end
theorem tN(k:Nat):∀(C:Cont) (i:Nat),eK C->(∃ o,cU i=some o)->(cV k C i).c=C.c:=by
 induction k with
 | zero=>exactλj j j j=>rfl
 | succ k ih=>
  intro C i V ⟨o,ho⟩;rw[iO];by_cases l:C.lk i=true
  ·rw[ai l]
  ·rw[aa l,ho]
   have hl:C.lk i=false:=by simpa using l
   cases q:par i with
   | none=>exact DE (V i o ho hl).2
   | some p=>have hp:=(jP.of ho).up p q;have e:=ih C p V hp;exact(DE (C:=cV k C p) (by rw[e];exact(V i o ho hl).2)).trans e
noncomputable def nO(C:Cont):Cont:=C.upd 21 (C.c 20)
noncomputable def pT(C:Cont):Cont:=if C.lk 13 then nO (cV 8 C 14) else C
section
variable{m:Nat}{X:XP}{Q:VQ}{w:Wc}{C:Cont}{i:Nat}{b c e:Ad}{num:Int}{k:Kp}{v0:Va}
theorem jQ.nO(W:jQ C):jQ (nO C) where
 base:=λj h=>by
  by_cases q:j=21
  ·rw[q];exact W.base 20 ()
  ·unfold Mine.nO;rw[dG q];exact W.base j h
 Br:=λj h=>by unfold Mine.nO;rw[dG (by lia)];exact W.Br j h
 us:=λj=>by
  by_cases q:j=21
  ·rw[q];exact W.us 20
  ·unfold Mine.nO;rw[dG q];exact W.us j
 u5:=λj h=>by
  by_cases q:j=21
  ·rw[q];exact W.u5 20 ()
  ·unfold Mine.nO;rw[dG q];exact W.u5 j h
 nd:=λj=>by
  by_cases q:j=21
  ·rw[q];exact W.nd 20
  ·unfold Mine.nO;rw[dG q];exact W.nd j
 nc:=λj=>by
  by_cases q:j=21
  ·rw[q];exact W.nc 20
  ·unfold Mine.nO;rw[dG q];exact W.nc j
theorem t6(z:Z w C [])(ha:z.A.ad 13=some a)(he:z.A.ad 14=some e)(h3:z.A.ad 3=some c)(V:eK C)(L:r9 C)(l14:C.lk 14=false)(hq:∀(z':Z w (pT C) []),Le z z'->Q .none z'.P):Calls (m+16) 649 [.ref w.W,.ref a,.ref e] z.P X Q:=by
 have M:=z.at_ ha nn;refine aB 50 rfl rfl rfl ?_;by_cases l13:C.lk 13=true;rotate_left
 ·have hq':=hq
  unfold pT at hq';rw[aa l13] at hq';exact aG (v:=.none) M rfl (yT z (by simpa using l13)) rfl ⟨rfl,hq' z (.refl z)⟩
 unfold pT at hq;rw[ai l13] at hq;obtain⟨b,hb,hg⟩:=yO z ha l13 rfl;replace hb:z.A.ad 20=some b:=hb;refine aG (v:=.ref b) M rfl hg rfl ⟨rfl,aG (v:=.ref b) M rfl hg rfl (pQ 8 14 z (qs 14) (o:=21) rfl he h3 V L λz1 d l1 hd hk=>?_)⟩;have k21:=hk l14
 have lk21:(cV 8 C 14).lk 21=false:=by
  rw[AX 8 C 14 21 ⋯];cases q:C.lk 21 with
  | false=>rfl
  | true=>have:=L 21 q;cases this
 have NF:(cV 8 C 14).c 21=dX:=by rw[tN 8 C 14 V ⟨21,rfl⟩];exact(V 14 21 rfl l14).2
 have W2:=z1.K.wf.nO;let z2:Z w (nO (cV 8 C 14)) [21]:=z1.x9 () (λj h=>dG h) rfl rfl W2 (za 21 (.inr rfl));have l2:Le z1 z2:=(Le.refl z1).x9 () (λj h=>dG h) rfl rfl W2 (za 21 (.inr rfl));have c0:=(z1.cellsOf hd NF).cast (fs':=wk (.int (z1.A.num 21) 0) (z1.A.rf (some 3)) .none (.bool true) (z1.A.rf (par 21)) (z1.A.rf (gU 21)) .none (z1.kp 21).kv (z1.kp 21)) (by rw[lk21];rfl) rfl rfl rfl rfl;refine nV (m:=m+10) (i:=20) (k:=z1.kp 21) z1 z2 l2 (l1.ad 20 b hb).1 () (z1.TN hd) c0 λz3 k3 k3n y A3 n3 cp=>?_;have hd3:z3.A.ad 21=some d:=by rw[A3];exact hd
 have b20:=z1.K.wf.base 20 ();have fe:wk (.int (z1.A.num 21) 0) (z1.A.rf (some 3)) .none (.bool (gJ 20)) (z2.A.rf (par 20)) (z1.A.rf (gU 21)) (if (gU 20).isNone then jB (nat 20) else .none) (z1.kp 21).kv k3=lI z3.A ((nO (cV 8 C 14)).lk 21) 21 k3:=by rw[show(nO (cV 8 C 14)).lk 21=false from lk21,show(z1.kp 21).kv=k3.kv by unfold Kp.kv;rw[k3n]];show wk (.int (z2.A.num 21) 0) (z2.A.rf (some 3)) .none (.bool true) (z2.A.rf (par 21)) (z2.A.rf (gU 21)) .none k3.kv k3=_;rw[<-A3];rfl
 let z4:=z3.close (k:=k3) hd3 (cp.c.cast fe rfl rfl rfl rfl) cp.en (k3n.trans k21) (λj hj=>by have:=z1.K.ref 21 d hd nn j (by unfold refsOf at hj ⊢;rw[show(nO (cV 8 C 14)).lk 21=false from lk21,show(nO (cV 8 C 14)).c 21=(cV 8 C 14).c 20 from rfl,b20.2.1,b20.2.2] at hj;rw[lk21,NF];exact hj);rw[A3];exact this)
 have l4:Le z z4:=l1.trans (cp.le.RI cp.nw rfl rfl rfl);exact aG (v:=.int z4.n.V 0) z4.K.W rfl rfl rfl (bQ z4.K.W rfl (qB w z4.n) (hq (z4.gZ z4.n.N (z4.n.V+1) z4.n.cv (eu _) (g5 (eu _))) (l4.gZ _ _)))
noncomputable def qQ(C:Cont):Cont:=pT (kN C)
theorem yu(V:eK C):eK (kN C):=λi o h l=>by
 have n:o≠14:=λq=>by have:=(jP.of h).ao;rw[q] at this;cases this
 exact⟨(aa n).trans (V i o h l).1,(rT n).trans (V i o h l).2⟩
theorem Qq(z:Z w C [])(ha:z.A.ad 13=some a)(h3:z.A.ad 3=some c)(h1:z.A.ad 1=some b)(n14:z.A.ad 14=none)(V:eK C)(L:r9 C)(hq:∀(z':Z w (qQ C) []) e,Le z z'->z'.A.ad 14=some e->Q (.ref e) z'.P):Calls (m+17) 656 [.ref w.W,.ref a,v0] z.P X Q:=by
 refine aB 51 rfl rfl rfl (xm (m:=m+8) z ha h3 h1 n14 λz1 e l1 he=>?_)
 have l14:(kN C).lk 14=false:=by
  cases q:C.lk 14 with
  | false=>exact q
  | true=>exact(z.K.lk 14 q).elim λb h=>by rw[n14] at h;cases h
 have ha1:=(l1.ad 13 a ha).1;exact⟨rfl,bS (z1.at_ ha1 nn) rfl (bt wN (t6 (m:=m) z1 ha1 he (l1.ad 3 c h3).1 (yu V) L l14 λz2 l2=>hq z2 e (l1.trans l2) (l2.ad 14 e he).1))⟩
theorem Kh(z:Z w C [])(ha:z.A.ad 13=some a)(h3:z.A.ad 3=some c)(h1:z.A.ad 1=some b)(n14:z.A.ad 14=none)(V:eK C)(L:r9 C)(hq:∀(z':Z w (qQ C) []) e,Le z z'->z'.A.ad 14=some e->Q (.ref e) z'.P):Calls (m+17) 663 [.ref w.W,.ref a,v0] z.P X Q:=by
 refine aB 52 rfl rfl rfl (xm (m:=m+8) z ha h3 h1 n14 λz1 e l1 he=>?_)
 have l14:(kN C).lk 14=false:=by
  cases q:C.lk 14 with
  | false=>exact q
  | true=>exact(z.K.lk 14 q).elim λb h=>by rw[n14] at h;cases h
 have ha1:=(l1.ad 13 a ha).1;refine⟨rfl,bS (z1.at_ ha1 nn) rfl (bt JE (t6 (m:=m) z1 ha1 he (l1.ad 3 c h3).1 (yu V) L l14 λz2 l2=>?_))⟩;have he2:=(l2.ad 14 e he).1;have M:=z2.at_ he2 nn;refine aG (v:=.bool false) (z2.at_ (l2.ad 13 a ha1).1 nn) rfl rfl rfl (bQ M rfl (cZ rfl) ?_)
 have same:upd z2.P e (.inst 228 (lI z2.A ((qQ C).lk 14) 14 (z2.kp 14)))=z2.P:=funext λy=>by
  by_cases q:y=e
  ·rw[q,aA];exact M.symm
  ·exact aD q
 show Q (.ref e) (upd z2.P e (.inst 228 (lI z2.A ((qQ C).lk 14) 14 (z2.kp 14))));rw[same];exact hq z2 e (l1.trans l2) he2
end
noncomputable def C0:Cont:=⟨λq=>false,λq=>false,λi=>⟨[],[],vV i,[]⟩⟩
theorem GI(i:Nat):vV i∈NO/\(12<=i->vV i∈oh):=by
 unfold vV;by_cases h1:i=1
 ·subst h1;exact⟨⋯,()⟩
 by_cases h7:i=7
 ·subst h7;exact⟨⋯,()⟩
 by_cases h8:i=8
 ·subst h8;exact⟨⋯,()⟩
 rw[aa h1,aa h7,aa h8];exact⟨⋯,λq=>⋯⟩
theorem Si:jQ C0 where
 base:=λi j=>⟨rfl,rfl,rfl⟩
 Br:=λi j=>rfl
 us:=λi=>⟨(GI i).1,(by decide +kernel:([]:List Nat)∈NO)⟩
 u5:=λi h=>⟨(GI i).2 h,(by decide +kernel:([]:List Nat)∈oh)⟩
 nd:=λi=>⟨List.nodup_nil,λq h=>by cases h⟩
 nc:=λi=>⟨List.nodup_nil,λq h=>by cases h⟩
section
variable{m:Nat}{X:XP}{Q:VQ}{w:Wc}{C:Cont}{nd pd gK:Ad}{P0:PH}
noncomputable def A0:k9:=⟨λq=>none,λq=>0⟩
noncomputable def Sj(w:Wc)(P0:PH)(hW:P0 w.W=some (.inst 1055 (sN w ⟨0,0,0,[]⟩)))(h1:P0 w.gK=some (.dict (0,0) []))(h2:P0 w.nd=some (.dict (0,0) []))(h3:P0 w.pd=some (.dict (0,0) []))(n1:w.nd≠w.gK)(n2:w.pd≠w.gK):Z w C0 [] where
 P:=P0
 A:=A0
 h:=eN (eN (eN (eN (λy=>none) w.nd (7,50)) w.pd (7,50)) w.gK (6,50)) w.W (5,50)
 n:=⟨0,0,0,[]⟩
 kp:=λy=>k0 0 0 0 0 0
 K:=
  have nW:∀{c t l},P0 c=some (.dict t l)->c≠w.W:=λp q=>by rw[q,hW] at p;cases p
  {W:=hW,gK:=h1,nd:=h2,pd:=h3,vf:=⋯,wJ:=λq h=>(by cases h),ve:=λi x y=>rfl
   mod:=λi a e=>by cases e
   ref:=λi a e=>by cases e
   inj:=λi j a b e=>by cases e
   le:=λi a e=>by cases e
   lk:=λi e=>by cases e
   ex:=λi y=>rfl
   wf:=Si
   oW:=bX ..,om:=(aM (nW h1)).trans (bX ..)
   on:=(aM (nW h2)).trans ((aM n1).trans (by
    by_cases q:w.nd=w.pd
    ·rw[q];exact bX ..
    ·exact(aM q).trans (bX ..)))
   op:=(aM (nW h3)).trans ((aM n2).trans (bX ..))
   ry:=λc t q=>by
    by_cases e1:c=w.W
    ·exact⟨_,by rw[e1];exact hW,rfl⟩
    rw[aM e1] at q;by_cases e2:c=w.gK
    ·exact⟨_,by rw[e2];exact h1,rfl⟩
    rw[aM e2] at q;by_cases e3:c=w.pd
    ·exact⟨_,by rw[e3];exact h3,rfl⟩
    rw[aM e3] at q;by_cases e4:c=w.nd
    ·exact⟨_,by rw[e4];exact h2,rfl⟩
    rw[aM e4] at q;cases q }
noncomputable def Z.wf'{S:List Nat}(z:Z w C S)(w':Wc)(e:w'.W=w.W/\w'.nd=w.nd/\w'.pd=w.pd/\w'.gK=w.gK):Z w' C S where
 P:=upd z.P w.W (.inst 1055 (sN w' z.n))
 A:=z.A
 h:=z.h
 n:=z.n
 kp:=z.kp
 K:=
  have K:=z.K;have ne:∀{c o t},z.h c=some t->t≠(5,50)->z.P c=some o->upd z.P w.W (.inst 1055 (sN w' z.n)) c=some o:=λq r p=>(aD λx=>r (by subst x;exact kr (q.symm.trans K.oW))).trans p
  {W:=by rw[e.1];exact aA ..,gK:=by rw[e.2.2.2];exact ne K.om () K.gK,nd:=by rw[e.2.1];exact ne K.on () K.nd,pd:=by rw[e.2.2.1];exact ne K.op () K.pd,vf:=K.vf,wJ:=K.wJ,ve:=K.ve
   mod:=λi a e s=>(K.mod i a e s).move e (K.ref i a e s) (λc o t q r p y=>⟨ne q (λx=>by
    subst x;rcases r with r|r
    ·exact absurd (K.le i a e).2 (by rw[<-r];decide)
    ·cases r) p,q⟩) (λj b q=>⟨q,rfl⟩) rfl rfl (eu _) λy=>rfl
   ref:=K.ref,inj:=K.inj,le:=K.le,lk:=K.lk,ex:=K.ex,wf:=K.wf,oW:=by rw[e.1];exact K.oW,om:=by rw[e.2.2.2];exact K.om,on:=by rw[e.2.1];exact K.on,op:=by rw[e.2.2.1];exact K.op
   ry:=λc t q=>stand rfl (K.ry c t q) }
theorem Le.wf'{w0:Wc}{C':Cont}{S S':List Nat}{z0:Z w0 C' S'}{z:Z w C S}(l:Le z0 z)(w':Wc)(e:w'.W=w.W/\w'.nd=w.nd/\w'.pd=w.pd/\w'.gK=w.gK):Le z0 (z.wf' w' e):=l.trans
 ⟨λc o q j k=>⟨(aD λx=>by rw[x,z.K.oW] at k;rcases k with k|⟨t,k⟩<;>cases k).trans q,rfl⟩,λj j h=>⟨h,rfl⟩⟩
end
section
variable{m:Nat}{X:XP}{Q:VQ}{nd:Ad}{P0:PH}
theorem EA{w:Wc}{C:Cont}(z:Z w C []){l:Ad}{o:PO}(hl:z.P l=some o){N:NP}{v0 v1 v2 v3 v4 v6 v7:Op Va}:∀(r:List (Str × Va)) (v5:Op Va),v0=some (.ref w.W)->(∀ q∈r,q.1.length<big)->(∀ v5,N [v0,v1,v2,v3,v4,v5,v6,v7] z.P)->cL (λv l P' k=>wpS (m+1) (fF 8) (.seq (.expr (.aS (.loc 0) 11 (.cons (.loc 5) .nil))) .skip) (l.set 5 (some v)) (jV (fF 8) 5 P') X k Q) (λP'=>P' l=some o) (r.map λe=>.str e.1 0) [v0,v1,v2,v3,v4,v5,v6,v7] z.P N:=by
 intro rr;induction rr with
 | nil=>exactλv5 j j h=>h v5
 | cons q r ih=>intro v5 e hq h;subst e;exact aU z.K.W K0.1 (by rw[K0.2];trivial) (t7 z (hq q (.head _)) ⟨hl,ih _ rfl (λy hy=>hq y (.tail _ hy)) h⟩)
theorem Ke(hnd:P0 nd=some (.dict (0,0) []))(hq:∀(w:Wc) (z:Z w C0 []) b,z.A.ad 1=some b->(∀ c o,P0 c=some o->o.bR=false->c≠nd->z.P c=some o/\z.h c=none)->Q (.ref w.W) z.P):
  ∀ a,P0 a=none->Calls (m+31) 815 [.ref a,.ref nd] (upd P0 a (.inst 1055 [])) X λv P'=>v=.none/\Q (.ref a) P':=λa ha=>by
 have l9:∀{fs:List (Nat × Va)},fs.length.ble 899=true->fs.length<900:=λh=>cZ h;have na:nd≠a:=λq=>by rw[q,ha] at hnd;cases hnd
 refine aB 67 rfl rfl rfl (bQ (aA ..) rfl (cZ rfl) ⟨rfl,kY (aA ..) rfl rfl λpd n1 e1 b1 h1 f1=>?_⟩);replace b1:=((Bt.refl (upd P0 a (.inst 1055 [])) a).put _).trans b1;generalize upd (upd _ pd _) a _=P1 at b1 h1 f1 ⊢;refine bQ h1 rfl (cZ rfl) (bQ (aA ..) rfl (cZ rfl) (bQ (aA ..) rfl (cZ rfl) (bQ (aA ..) rfl (cZ rfl) (bQ (aA ..) rfl (cZ rfl) (kY (aA ..) rfl rfl λsi n2 e2 b2 h2 f2=>?_)))));replace b2:=(((((Bt.refl P1 a).put _).put _).put _).put _).put _ |>.trans b2
 generalize upd (upd _ si _) a _=P2 at b2 h2 f2 ⊢;refine kY h2 rfl rfl λgK n3 e3 b3 h3 f3=>?_;have p2:P2 pd=some (.dict (0,0) []):=b2 _ _ e1 f1;have d2:P2 nd=some (.dict (0,0) []):=b2 _ _ na (b1 _ _ na ((aD na).trans hnd));have x1:nd≠gK:=λq=>by rw[<-q,d2] at n3;cases n3
 have x2:pd≠gK:=λq=>by rw[<-q,p2] at n3;cases n3
 generalize upd (upd _ gK _) a _=P3 at b3 h3 f3 ⊢;refine bQ h3 rfl (cZ rfl) (bQ (aA ..) rfl (cZ rfl) (kY (aA ..) rfl rfl λgl n4 e4 b4 h4 f4=>?_));replace b4:=((Bt.refl P3 a).put _).put _ |>.trans b4
 generalize upd (upd _ gl _) a _=P4 at b4 h4 f4 ⊢;refine⟨bl,kY h4 rfl rfl λot n5 e5 b5 h5 f5=>?_⟩;generalize upd (upd _ ot _) a _=P5 at b5 h5 f5 ⊢;refine bQ h5 rfl (cZ rfl) ?_;let w0:Wc:=⟨a,nd,pd,si,gK,gl,ot,false,none⟩
 generalize hP6:upd P5 a _=P6;have h6:P6 a=some (.inst 1055 (sN w0 ⟨0,0,0,[]⟩)):=by rw[<-hP6];exact aA ..
 have b6:Bt P5 P6 a:=by rw[<-hP6];exact(Bt.refl P5 a).put _
 clear hP6;have b36:=(b4.trans b5).trans b6;have b06:=(b1.trans b2).trans (b3.trans b36);let z0:=Sj w0 P6 h6 (b36 _ _ e3 f3) (b06 _ _ na ((aD na).trans hnd)) ((b3.trans b36) _ _ e1 p2) x1 x2;refine aU z0.K.W DB.1 (by rw[DB.2];exact PL w0 z0.n) (iV (m:=m+29) z0 ?_);let z1:=z0.gZ (z0.n.N+1) z0.n.V z0.n.cv (g5 (eu _)) (eu _);have l1:Le z0 z1:=(Le.refl z0).gZ _ _;refine aU z1.K.W oq.1 (by rw[oq.2];trivial) (gV (m:=m+1) z1 1 rfl λz2 top l2 ht e he=>mZ (m:=m+28) (aA ..) rfl λP7 fd b7 j j h7 j=>⟨rfl,?_⟩)
 have p:Pu z2.P P7:=λc o q=>
  have n:c≠e:=λr=>by rw[r,he] at q;cases q
  b7 c o n ((aD n).trans q)
 let z3:=z2.pu P7 p;have l3:Le z0 z3:=(l1.trans l2).pu P7 p;let w1:Wc:={ w0 with mn:=some e }
 let w2:Wc:={ w1 with ready:=true }
 let z4:=z3.wf' w1 ⟨rfl,rfl,rfl,rfl⟩;let z5:=z4.wf' w2 ⟨rfl,rfl,rfl,rfl⟩;have l5:Le z0 z5:=(l3.wf' w1 ⟨rfl,rfl,rfl,rfl⟩).wf' w2 ⟨rfl,rfl,rfl,rfl⟩;refine bQ (fs:=sN w0 z3.n) z3.K.W rfl (cZ rfl) (bQ (fs:=sN w1 z4.n) z4.K.W rfl (cZ rfl) ?_);have lm:z5.n.md.length<big:=k6 (fu (Nat.le_add_right ..) z5.K.vf) ();refine aG (v:=.ref gK) (fs:=sN w2 z5.n) z5.K.W rfl rfl rfl (KY z5.K.gK lm λl hl=>cO (aA ..) (by rw[ef];exact lm) ?_);let z6:=z5.new l (.list (0,0) (z5.n.md.map λe=>.str e.1 0)) hl;refine EA (m:=m+29) z6 (aA ..) z5.n.md none rfl z5.K.wJ λv5=>⟨rfl,hq w2 z6 top ht λc o q r n=>?_⟩
 have nca:c≠a:=λx=>by rw[x,ha] at q;cases q
 have q6:z0.P c=some o:=b06 _ _ nca ((aD nca).trans q)
 have u0:z0.h c=none:=by
  have c1:c≠pd:=λx=>by rw[<-x,aD nca,aD nca,q] at n1;cases n1
  have c2:c≠gK:=λx=>by rw[<-x,b2 _ _ nca (b1 _ _ nca ((aD nca).trans q))] at n3;cases n3
  exact(aM nca).trans ((aM c2).trans ((aM c1).trans (aM n)))
 exact(((l5.new _ hl).fr c o q6 r (.inl u0)).imp id λx=>x.trans u0)
end
section
noncomputable abbrev BW:List Bool:=List.replicate 27 false
noncomputable def C4:Cont:=(((C0.new 12 dX).new 13 dX).new 15 dX).new 16 dX
structure fY{w:Wc}{C:Cont}(z:Z w C [])(L:List (Ad × Tag × PO)):Prop where
 at_:∀ q∈L,z.P q.1=some q.2.2/\q.2.2.bR=false/\z.h q.1=none
 nd:(L.map (·.1)).Nodup
noncomputable def gM(r:Nat->Ad)(a:Ad)(pv:Va)(i:Nat):List (Ad × Tag × PO):=[(r 5,(5,i),.list (0,0) []),(r 4,(4,i),.list (0,0) []),(r 3,(3,i),.dict (0,0) []),(r 2,(2,i),.dict (0,0) []),(r 1,(1,i),.dict (0,0) []),(r 0,(0,i),.dict (0,0) [("thing",.ref a),("parent",pv),("methods",.ref (r 1)),("alone",.ref (r 2)),("consts",.ref (r 3)),("mixed",.ref (r 4)),("front",.ref (r 5))])]
noncomputable def L0(BX:Ad)(b:Int):List (Ad × Tag × PO):=[(BX,(7,99),.list (0,0) [.int b 0,.int 0 0]),(1122,(8,1122),.tab []),(1164,(8,1164),.tab [])]
abbrev Nv(P':PH):Prop:=∀ t,t=1122\/t=1164->∃ es,P' t=some (.tab es)
def pB(w:Wc)(BX RD:Ad):Prop:=∀(m:Nat) (X:XP) (Q:VQ) (N:NP) (z:Z w C4 []) (sc:Ad) (b:Int) (rB rC rM rN:Nat->Ad) (e12 e13 e15 e16 a1:Ad) (lg:Int),fY z ((RD,(6,99),.dict (0,0) [("B",.ref (rB 0)),("C",.ref (rC 0)),("M",.ref (rM 0)),("N",.ref (rN 0))])::(gM rN e16 .none 16++(gM rM e15 .none 15++(gM rC e13 (.str "B" 0) 13++(gM rB e12 .none 12++L0 BX b)))))->z.A.ad 12=some e12->z.A.ad 13=some e13->z.A.ad 15=some e15->z.A.ad 16=some e16->z.A.ad 1=some a1->(lg=0\/lg=1)->(∀ P',Nv P'->Q (.bool true) P')->wpS (m+40) BW (bV 4 r7) (some (.ref sc)::some (.ref BX)::some (.int lg 0)::some (.ref w.W)::some (.ref e12)::some (.ref RD)::nN 21) z.P X N Q
noncomputable def w3:Wc × Ad × Ad:=@Classical.epsilon _ ⟨⟨0,0,0,0,0,0,0,false,none⟩,0,0⟩ λx=>¬ pB x.1 x.2.1 x.2.2
noncomputable def w:Wc:=w3.1
noncomputable def BX:Ad:=w3.2.1
noncomputable def RD:Ad:=w3.2.2
theorem KR(h:pB w BX RD)(w':Wc)(b r:Ad):pB w' b r:=Classical.byContradiction λn=>Classical.epsilon_spec (p:=λx:Wc × Ad × Ad=>¬ pB x.1 x.2.1 x.2.2) ⟨(w',b,r),n⟩ h
end
section
structure iT where
 mt:List (Str × Ent)
 ct:List (Str × Int)
 mx:List Nat
 ah:List Nat
 al:List (Str × Int)
noncomputable def fC(i:Nat):Str:=if i=12 then "B" else if i=13 then "C" else if i=14 then "D" else if i=15 then "M" else "N"
noncomputable def nP(i:Nat):Va:=if i=13 then .str "B" 0 else if i=14 then .str "B" 0 else .none
noncomputable def x7(mt:List (Str × Ent))(tp:Str->Ad):List (Str × Va):=mt.map λq=>(q.1,match q.2 with|none=>.none|some _=>.ref (tp q.1))
noncomputable def JV(l:List (Str × Int)):List (Str × Va):=l.map λq=>(q.1,.int q.2 0)
noncomputable def fQ(l:List Nat):List Va:=l.map λj=>.str (fC j) 0
noncomputable def cG(a:Ad)(r:Nat->Ad)(tp:Str->Ad)(d:iT)(i:Nat):Nat->PO
 | 0=>.dict (0,0) [("thing",.ref a),("parent",nP i),("methods",.ref (r 1)),("alone",.ref (r 2)),("consts",.ref (r 3)),("mixed",.ref (r 4)),("front",.ref (r 5))]
 | 1=>.dict (0,0) (x7 d.mt tp)
 | 2=>.dict (0,0) (JV d.al)
 | 3=>.dict (0,0) (JV d.ct)
 | 4=>.list (0,0) (fQ d.mx)
 | _=>.list (0,0) (fQ d.ah)
theorem Fv{p:Nat->Prop}{n:Nat}(a:p 0)(b:∀ k,k<n->p (k+1)):∀ k,k<n+1->p k:=λk=>Nat.casesOn k (λq=>a) λk h=>b k (Nat.lt_of_succ_lt_succ h)
theorem six{p:Nat->Prop}(a:p 0)(b:p 1)(c:p 2)(d:p 3)(e:p 4)(f:p 5):∀ k,k<6->p k:=Fv a (Fv (p:=λk=>p (k+1)) b (Fv (p:=λk=>p (k+2)) c (Fv (p:=λk=>p (k+3)) d (Fv (p:=λk=>p (k+4)) e (Fv (p:=λk=>p (k+5)) f λk h=>absurd h (j0 k))))))
theorem Ag{p:Nat->Prop}(a:p 0)(b:∀ k,p (k+1))(k:Nat):p k:=Nat.casesOn k a b
theorem rt{a:Ad}{r:Nat->Ad}{tp:Str->Ad}{d:iT}{i k:Nat}:(cG a r tp d i k).bR=false:=Ag (p:=λk=>(cG a r tp d i k).bR=false) rfl (Ag rfl (Ag rfl (Ag rfl (Ag rfl λk=>rfl)))) k
structure Lx where
 r:Nat->Nat->Ad
 tp:Nat->Str->Ad
 th:Nat->Ad
 ids:List Nat
 g:eO
 bx:Int × Int
 D:Nat->iT
structure Lw{w:Wc}{C:Cont}(z:Z w C [])(BX RD:Ad)(x:Lx):Prop where
 box:z.P BX=some (.list (0,0) [.int x.bx.1 0,.int x.bx.2 0])
 rows:z.P RD=some (.dict (0,0) (x.ids.map λi=>(fC i,.ref (x.r i 0))))
 row:∀ i∈x.ids,∀ k,k<6->z.P (x.r i k)=some (cG (x.th i) (x.r i) (x.tp i) (x.D i) i k)/\x.g (x.r i k)=some (k,i)
 tup:∀ i∈x.ids,∀ q∈(x.D i).mt,∀ d,q.2=some d->z.P (x.tp i q.1)=some (.tup [.int d.1 0,.str d.2 0])/\x.g (x.tp i q.1)=some (9,99)
 th:∀ i∈x.ids,z.A.ad i=some (x.th i)
 un:∀ c t,x.g c=some t->z.h c=none/\∃ o,z.P c=some o/\o.bR=false
 oB:x.g BX=some (7,99)
 oR:x.g RD=some (6,99)
 tb:∀ t,t=1122\/t=1164->∃ es,z.P t=some (.tab es)/\x.g t=some (8,t)/\∀ k c,es.lookup k=some c->z.P c=some (.code k)/\x.g c=some (9,99)
structure Y(w:Wc)(BX RD:Ad) where
 C:Cont
 z:Z w C []
 x:Lx
 L:Lw z BX RD x
structure Lf(y y':Y w BX RD):Prop where
 fr:∀ c o,y.z.P c=some o->o.bR=false->y.z.h c=none->y.x.g c=none->y'.z.P c=some o/\y'.z.h c=none/\y'.x.g c=none
 fz:∀ c o,y.z.P c=some o->o.bR=false->y.x.g c=some (9,99)->y'.z.P c=some o/\y'.x.g c=some (9,99)
theorem Lf.refl(y:Y w BX RD):Lf y y:=⟨λj j p j q r=>⟨p,q,r⟩,λj j p j q=>⟨p,q⟩⟩
theorem Lf.trans{y y' y'':Y w BX RD}(a:Lf y y')(b:Lf y' y''):Lf y y'':=⟨λc o p l q r=>have s:=a.fr c o p l q r;b.fr c o s.1 l s.2.1 s.2.2,λc o p l q=>have s:=a.fz c o p l q;b.fz c o s.1 l s.2⟩
noncomputable def Y.go(y:Y w BX RD){C':Cont}(z':Z w C' [])(l:Le y.z z'):Y w BX RD:=
 ⟨C',z',y.x,by have f:∀{c t o},y.x.g c=some t->y.z.P c=some o->o.bR=false->z'.P c=some o:=λg p l'=>(l.fr _ _ p l' (.inl (y.L.un _ _ g).1)).1;exact⟨f y.L.oB y.L.box rfl,f y.L.oR y.L.rows rfl,λi hi k hk=>have r:=y.L.row i hi k hk;⟨f r.2 r.1 rt,r.2⟩,λi hi q hq d hd=>have r:=y.L.tup i hi q hq d hd;⟨f r.2 r.1 rfl,r.2⟩,λi hi=>(l.ad i _ (y.L.th i hi)).1,λc t g=>have u:=y.L.un c t g;u.2.elim λo e=>have s:=l.fr c o e.1 e.2 (.inl u.1);⟨s.2.trans u.1,o,s.1,e.2⟩,y.L.oB,y.L.oR,λt ht=>(y.L.tb t ht).imp λes q=>⟨f q.2.1 q.1 rfl,q.2.1,λk c e=>⟨f (q.2.2 k c e).2 (q.2.2 k c e).1 rfl,(q.2.2 k c e).2⟩⟩⟩⟩
theorem Lf.go{y0 y:Y w BX RD}(a:Lf y0 y){C':Cont}(z':Z w C' [])(l:Le y.z z'):Lf y0 (y.go z' l):=a.trans
 ⟨λc o p n q r=>have s:=l.fr c o p n (.inl q);⟨s.1,s.2.trans q,r⟩,λc o p n q=>⟨(l.fr c o p n (.inl (y.L.un _ _ q).1)).1,q⟩⟩
theorem gA{y:Y w BX RD}{c c':Ad}{t t':Tag}(h:y.x.g c=some t)(h':y.x.g c'=some t')(n:t≠t'):c≠c':=λq=>n (by subst q;exact kr (h.symm.trans h'))
noncomputable def Lx.Jj(x:Lx)(i:Nat)(d:iT):Lx:={ x with D:=λj=>if j=i then d else x.D j }
noncomputable def Y.wM(y:Y w BX RD){i k:Nat}(hi:i∈y.x.ids)(hk:k<6)(d:iT)(hm:d.mt=(y.x.D i).mt)(hd:∀ k',k'<6->k'≠k->cG (y.x.th i) (y.x.r i) (y.x.tp i) d i k'=cG (y.x.th i) (y.x.r i) (y.x.tp i) (y.x.D i) i k'):Y w BX RD:=
 ⟨y.C,y.z.put (y.x.r i k) (cG (y.x.th i) (y.x.r i) (y.x.tp i) d i k) (y.L.un _ _ (y.L.row i hi k hk).2).1,y.x.Jj i d,by
  have R:=y.L.row i hi k hk;have ne:∀{c t},y.x.g c=some t->t≠(k,i)->c≠y.x.r i k:=λg n=>gA g R.2 n;have nk:∀{t:Nat},6<=t->∀{s:Nat},((t,s):Tag)≠(k,i):=λh u q=>absurd hk (by have:=aj Prod.fst q;simp only at this;lia);exact⟨(aD (ne y.L.oB (nk ()))).trans y.L.box,(aD (ne y.L.oR (nk ()))).trans y.L.rows,λj hj k' hk'=>by
    have r:=y.L.row j hj k' hk';refine⟨?_,r.2⟩;show upd y.z.P _ _ (y.x.r j k')=some (cG _ _ _ (if j=i then d else y.x.D j) j k');by_cases q:j=i
    ·rw[q] at r ⊢
     rw[ai rfl];by_cases q':k'=k
     ·rw[q'];exact aA ..
     ·exact((aD (ne r.2 λz=>q' (aj Prod.fst z))).trans r.1).trans (aj some (hd k' hk' q').symm)
    ·rw[aa q];exact(aD (ne r.2 λz=>q (aj Prod.snd z))).trans r.1,λj hj q hq e he=>by
    have hq':q∈(y.x.D j).mt:=by
     have:q∈(if j=i then d else y.x.D j).mt:=hq;by_cases x:j=i
     ·rw[ai x,hm,<-x] at this;exact this
     ·rwa [aa x] at this
    have r:=y.L.tup j hj q hq' e he;exact⟨(aD (ne r.2 (nk ()))).trans r.1,r.2⟩,y.L.th,λc t g=>⟨(y.L.un c t g).1,stand rt (y.L.un c t g).2⟩,y.L.oB,y.L.oR,λt ht=>(y.L.tb t ht).imp λes q=>⟨(aD (ne q.2.1 (nk ()))).trans q.1,q.2.1,λk c e=>⟨(aD (ne (q.2.2 k c e).2 (nk ()))).trans (q.2.2 k c e).1,(q.2.2 k c e).2⟩⟩⟩⟩
theorem Lf.wM{y0 y:Y w BX RD}(a:Lf y0 y){i k:Nat}(hi:i∈y.x.ids)(hk:k<6)(d:iT)(hm:d.mt=(y.x.D i).mt)(hd:∀ k',k'<6->k'≠k->cG (y.x.th i) (y.x.r i) (y.x.tp i) d i k'=cG (y.x.th i) (y.x.r i) (y.x.tp i) (y.x.D i) i k'):Lf y0 (y.wM hi hk d hm hd):=a.trans
 ⟨λc o p j q r=>⟨(aD λe=>by rw[e,(y.L.row i hi k hk).2] at r;cases r).trans p,q,r⟩,λc o p j q=>⟨(aD (gA q (y.L.row i hi k hk).2 λe=>by have:=aj Prod.fst e;simp only at this;lia)).trans p,q⟩⟩
noncomputable def Y.setM(y:Y w BX RD){i:Nat}(hi:i∈y.x.ids)(mt:List (Str × Ent))(tp:Str->Ad)(g':eO)(hg:∀ c t,y.x.g c=some t->g' c=some t)(hu:∀ c t,g' c=some t->y.z.h c=none/\∃ o,y.z.P c=some o/\o.bR=false)
  (ht:∀ q∈mt,∀ d,q.2=some d->y.z.P (tp q.1)=some (.tup [.int d.1 0,.str d.2 0])/\g' (tp q.1)=some (9,99)):Y w BX RD:=
 ⟨y.C,y.z.put (y.x.r i 1) (.dict (0,0) (x7 mt tp)) (y.L.un _ _ (y.L.row i hi 1 ()).2).1,{ y.x with g:=g',tp:=λj=>if j=i then tp else y.x.tp j,D:=λj=>if j=i then { y.x.D i with mt:=mt } else y.x.D j },by
  have R:=y.L.row i hi 1 ();have ne:∀{c t},y.x.g c=some t->t≠(1,i)->c≠y.x.r i 1:=λg n=>gA g R.2 n;have ne':∀{c o},y.z.P c=some (.tup o)->c≠y.x.r i 1:=λp q=>by rw[q,R.1] at p;cases p
  have n9:∀{t s:Nat},6<=t->((t,s):Tag)≠(1,i):=λh q=>absurd (aj Prod.fst q) (by simp only;lia);exact⟨(aD (ne y.L.oB (n9 ()))).trans y.L.box,(aD (ne y.L.oR (n9 ()))).trans y.L.rows,λj hj k' hk'=>by
    have r:=y.L.row j hj k' hk';refine⟨?_,hg _ _ r.2⟩;show upd y.z.P _ _ (y.x.r j k')=some (cG _ _ (if j=i then tp else y.x.tp j) (if j=i then { y.x.D i with mt:=mt } else y.x.D j) j k');by_cases q:j=i
    ·rw[q] at r ⊢
     rw[ai rfl,ai rfl];by_cases q':k'=1
     ·rw[q'];exact aA ..
     ·rw[aD (ne r.2 λz=>q' (aj Prod.fst z)),r.1]
      refine aj some ?_;revert q';exact six (p:=λk=>k≠1->cG (y.x.th i) (y.x.r i) (y.x.tp i) (y.x.D i) i k=cG (y.x.th i) (y.x.r i) tp { y.x.D i with mt:=mt } i k) (λ_=>rfl) (λq'=>absurd rfl q') (λ_=>rfl) (λ_=>rfl) (λ_=>rfl) (λ_=>rfl) k' hk'
    ·rw[aa q,aa q,aD (ne r.2 λz=>q (aj Prod.snd z))];exact r.1,λj hj q hq e he=>by
    show upd y.z.P _ _ ((if j=i then tp else y.x.tp j) q.1)=_/\g' ((if j=i then tp else y.x.tp j) q.1)=_;have hq:q∈(if j=i then { y.x.D i with mt:=mt } else y.x.D j).mt:=hq;by_cases x:j=i
    ·rw[ai x] at hq ⊢
     have r:=ht q hq e he;exact⟨(aD (ne' r.1)).trans r.1,r.2⟩
    ·rw[aa x] at hq ⊢
     have r:=y.L.tup j hj q hq e he;exact⟨(aD (ne' r.1)).trans r.1,hg _ _ r.2⟩,y.L.th,λc t g=>⟨(hu c t g).1,stand rfl (hu c t g).2⟩,hg _ _ y.L.oB,hg _ _ y.L.oR,λt ht=>(y.L.tb t ht).imp λes q=>⟨(aD (ne q.2.1 (n9 ()))).trans q.1,hg _ _ q.2.1,λk c e=>⟨(aD (ne (q.2.2 k c e).2 (n9 ()))).trans (q.2.2 k c e).1,hg _ _ (q.2.2 k c e).2⟩⟩⟩⟩
noncomputable def Y.BE(y:Y w BX RD){t:Ad}(ht:t=1122\/t=1164){es:List (Nat × Ad)}(hes:y.z.P t=some (.tab es)){k:Nat}{c:Ad}(hk:es.lookup k=none)(hc:y.z.P c=none):Y w BX RD:=
 ⟨y.C,(y.z.put t (.tab (es++[(k,c)])) (y.L.un t (8,t) ((y.L.tb t ht).elim λes q=>q.2.1)).1).put c (.code k) (y.z.un hc),{ y.x with g:=eN y.x.g c (9,99) },by
  have T:=y.L.tb t ht;have gt:y.x.g t=some (8,t):=T.elim λes q=>q.2.1
  have gc:y.x.g c=none:=by
   cases q:y.x.g c with
   | none=>rfl
   | some t=>exact(y.L.un c t q).2.elim λo p=>by rw[hc] at p;cases p.1
  have nt:c≠t:=λq=>by rw[q,hes] at hc;cases hc
  have old:∀{a s o},y.x.g a=some s->s≠(8,t)->y.z.P a=some o->upd (upd y.z.P t (.tab (es++[(k,c)]))) c (.code k) a=some o:=λg n p=>(aD λq=>by rw[q,hc] at p;cases p).trans ((aD (gA g gt n)).trans p);have gg:∀{a s},y.x.g a=some s->eN y.x.g c (9,99) a=some s:=λg=>aY gc g;have n8:∀{a b:Nat},a≠8->((a,b):Tag)≠(8,t):=λh q=>h (aj Prod.fst q);exact⟨old y.L.oB (n8 ()) y.L.box,old y.L.oR (n8 ()) y.L.rows,λi hi k hk=>have r:=y.L.row i hi k hk;⟨old r.2 (n8 (by lia)) r.1,gg r.2⟩,λi hi q hq d hd=>have r:=y.L.tup i hi q hq d hd;⟨old r.2 (n8 ()) r.1,gg r.2⟩,y.L.th,λa s g=>by
    by_cases q:a=c
    ·rw[q];exact⟨y.z.un hc,_,aA ..,rfl⟩
    ·have g:=(aM q).symm.trans g
     have u:=y.L.un a s g;exact⟨u.1,stand rfl (stand rfl u.2)⟩,gg y.L.oB,gg y.L.oR,λt' ht'=>by
    by_cases q:t'=t
    ·rw[q]
     refine⟨es++[(k,c)],(aD (gz nt)).trans (aA ..),gg gt,λk' c' e=>?_⟩;obtain⟨es',h1,_,h3⟩:=T;have e1:es'=es:=by injection kr (h1.symm.trans hes)
     rw[List.lookup_append] at e;cases q:es.lookup k' with
     | some c''=>rw[q] at e;have x:=h3 k' c' (by rw[e1,q];exact e);exact⟨old x.2 (n8 ()) x.1,gg x.2⟩
     | none=>
      rw[q] at e;have e:([(k,c)]:List (Nat × Ad)).lookup k'=some c':=e;rw[f6] at e;cases r:k'==k with
      | true=>rw[r] at e;rw[<-kr e,beq_iff_eq.mp r];exact⟨aA ..,bX ..⟩
      | false=>rw[r] at e;cases e
    ·exact(y.L.tb t' ht').imp λes' x=>⟨old x.2.1 (λz=>q (aj Prod.snd z)) x.1,gg x.2.1,λk' c' e=>⟨old (x.2.2 k' c' e).2 (n8 ()) (x.2.2 k' c' e).1,gg (x.2.2 k' c' e).2⟩⟩⟩⟩
theorem Lf.BE{y0 y:Y w BX RD}(a:Lf y0 y){t:Ad}(ht:t=1122\/t=1164){es:List (Nat × Ad)}(hes:y.z.P t=some (.tab es)){k:Nat}{c:Ad}(hk:es.lookup k=none)(hc:y.z.P c=none):Lf y0 (y.BE ht hes hk hc):=by
 have gt:y.x.g t=some (8,t):=(y.L.tb t ht).elim λes q=>q.2.1;refine a.trans ⟨λx o p j q r=>?_,λx o p j q=>?_⟩
 ·have nc:x≠c:=λe=>by rw[e,hc] at p;cases p
  exact⟨(aD nc).trans ((aD λe=>by rw[e,gt] at r;cases r).trans p),q,(aM nc).trans r⟩
 ·have nc:x≠c:=λe=>by rw[e,hc] at p;cases p
  exact⟨(aD nc).trans ((aD (gA q gt λe=>by cases e)).trans p),(aM nc).trans q⟩
end
section
noncomputable def pn:List Nat:=[12,13,14,15,16]
theorem tK:∀ a∈pn,∀ b∈pn,fC a=fC b->a=b:=⋯
theorem tV{j:Nat}(hj:j∈pn):∀{l:List Nat},(∀ y∈l,y∈pn)->fZ (fC j) (fQ l)=some (l.contains j):=by
 intro rr;induction rr with
 | nil=>exactλu=>rfl
 | cons y l ih=>
  intro h;show(fZ (fC j) (fQ l)).map (decide (fC y=fC j)||·)=_;rw[ih λz hz=>h z (.tail _ hz),List.contains_cons,i7];by_cases e:j=y
  ·rw[e,bg,au rfl]
  ·rw[beq_eq_false_iff_ne.mpr e,av λq=>e (tK _ hj _ (h y (.head _)) q.symm)]
theorem bC{j:Nat}{f:Nat->Va}(hu:j∈pn):∀{l:List Nat},(∀ y∈l,y∈pn)->j∈l->aR (fC j) (l.map λi=>(fC i,f i))=some (f j):=by
 intro l;induction l with
 | nil=>exactλu h=>absurd h gk
 | cons y l ih=>
  intro h hj;show(if fC y=fC j then some (f y) else aR (fC j) (l.map λi=>(fC i,f i)))=_;by_cases e:y=j
  ·rw[e,ai rfl]
  ·rw[aa λq=>e (tK _ (h y (.head _)) _ hu q)]
   exact ih (λz hz=>h z (.tail _ hz)) ((ku hj).resolve_left (gz e))
noncomputable def mD(D:Nat->iT)(behind:List Nat)(i:Nat):List Nat:=(D i).ah.reverse++[i]++(D i).mx.reverse.filter λx=>!(D i).ah.contains x&&!behind.contains x
noncomputable def wz(D:Nat->iT)(behind:List Nat)(i:Nat):List Nat:=mD D behind i++behind.filter λx=>!(mD D behind i).contains x
noncomputable def iK(D:Nat->iT)(i:Nat):List Nat:=wz D (if i=13\/i=14 then wz D [] 12 else []) i
structure Bx(x:Lx):Prop where
 ids:∀ i∈x.ids,i∈pn
 b:12∈x.ids/\15∈x.ids/\16∈x.ids
 ls:∀ i,(x.D i).mx∈oh/\(x.D i).ah∈oh
theorem jE:∀ l∈oh,∀ j∈l,j∈pn:=⋯
theorem DF(l:List Nat):(fQ l).reverse=fQ l.reverse:=(jl ..).symm
theorem nv(l l':List Nat):fQ l++fQ l'=fQ (l++l'):=(i8 ..).symm
theorem cP(l:List Nat):(fQ l).length=l.length:=ef ..
theorem AH{step:Va->PH->(Op Va->PH->Prop)->Prop}{guard:PH->Prop}{Ph:PH}{k:List Va->PH->Prop}(f:Nat->Bool)(hg:guard Ph):∀(l acc:List Nat),(∀ j∈l,∀ r:Op Va->PH->Prop,(f j=true->r (some (.str (fC j) 0)) Ph)->(f j=false->r none Ph)->step (.str (fC j) 0) Ph r)->k (fQ (acc++l.filter f)) Ph->xH step guard (fQ l) (fQ acc) Ph k:=by
 intro rr;induction rr with
 | nil=>exactλacc q h=>by rw[List.filter_nil,jk] at h;exact h
 | cons j l ih=>
  exactλacc hs h=>hs j (.head _) _
   (λe=>⟨hg,by
    show xH step guard (fQ l) (fQ acc++[.str (fC j) 0]) Ph k;rw[show fQ acc++[.str (fC j) 0]=fQ (acc++[j]) from nv acc [j]];refine ih (acc++[j]) (λy hy=>hs y (.tail _ hy)) ?_
    rwa [List.filter_cons_of_pos e,List.append_cons] at h⟩)
   λe=>⟨hg,ih acc (λy hy=>hs y (.tail _ hy)) (by rwa [List.filter_cons_of_neg (by rw[e];decide)] at h)⟩
section
variable{m:Nat}{X:XP}{Q:VQ}{i:Nat}
theorem Y.row(y:Y w BX RD){k:Nat}(hi:i∈y.x.ids)(hk:k<6):y.z.P (y.x.r i k)=some (cG (y.x.th i) (y.x.r i) (y.x.tp i) (y.x.D i) i k):=(y.L.row i hi k hk).1
noncomputable abbrev U7:List Bool:=[false,false,true,true,true,false]
theorem xJ(y:Y w BX RD)(O:Bx y.x)(hi:i∈y.x.ids){b:Ad}{tb:Nat × Nat}{behind:List Nat}{v0:Op Va}{N:NP}(hb:y.z.P b=some (.list tb (fQ behind)))(hbu:∀ j∈behind,j∈pn)(hbl:behind.length<20)
  (hq:∀(z':Z w y.C []) e,Le y.z z'->z'.h e=none->Nw y.z e->z'.P e=some (.list (0,0) (fQ (wz y.x.D behind i)))->Q (.ref e) z'.P):
  wpS m U7 (bV 2 rZ) [v0,some (.str (fC i) 0),some (.ref (y.x.r i 0)),some (.ref b),none,none] y.z.P X N (λv P'=>Q v (bJ P')):=by
 have iu:=O.ids i hi;have l2:∀{l:List Nat},l∈oh->(fQ l).length<big:=λh=>k6 (fu (gi (cP _)) (cJ _ (gB h))) ();have r0:=y.row hi (k:=0) ();have r4:=y.row hi (k:=4) ();have r5:=y.row hi (k:=5) ()
 refineλq=>aO (v:=.ref (y.x.r i 5)) r0 rfl (yL r5 (l2 (O.ls i).2) λe1 h1=>⟨bl,λe2 h2=>?_⟩)
 have p2:Pu y.z.P (upd (upd y.z.P e1 (.list (0,0) (fQ (y.x.D i).ah).reverse)) e2 (.list (0,0) [.str (fC i) 0])):=((Pu.refl _).new _ h1).new _ h2;have f1:=aI (o:=.list (0,0) [.str (fC i) 0]) (aA y.z.P e1 (.list (0,0) (fQ (y.x.D i).ah).reverse)) h2;refine Gy f1 (aA ..) ⟨by rw[gh];exact l2 (O.ls i).2,bl⟩ λe3 h3=>?_;have p3:=p2.new (.list (0,0) ((fQ (y.x.D i).ah).reverse++[.str (fC i) 0])) h3
 refineλq=>aO (v:=.ref (y.x.r i 4)) (p3 _ _ r0) rfl (yL (p3 _ _ r4) (l2 (O.ls i).1) λe4 h4=>?_)
 have p4:=p3.new (.list (0,0) (fQ (y.x.D i).mx).reverse) h4;have rl:(fQ (y.x.D i).mx).reverse=fQ (y.x.D i).mx.reverse:=DF _
 refineλq=>EN (aA ..) (by rw[gh];exact l2 (O.ls i).1) ?_
 rw[rl];rw[rl] at p4;refine AH (λx=>!(y.x.D i).ah.contains x&&!behind.contains x) (λq=>dF (aA ..)) (y.x.D i).mx.reverse [] (λj hj r t f=>?_) ?_
 ·have ju:=jE _ (O.ls i).1 j (d8 hj)
  refineλq=>aO (v:=.ref (y.x.r i 5)) (p4 _ _ r0) rfl λq=>bW (b:=!(y.x.D i).ah.contains j) (by rw[QV (dF (p4 _ _ r5)),tV ju (jE _ (O.ls i).2)];rfl) ?_
  cases c1:(y.x.D i).ah.contains j with
  | true=>exact bf rfl (f (by show(!(y.x.D i).ah.contains j&&!behind.contains j)=false;rw[c1];rfl))
  | false=>
   refine bt rfl λq=>bW (b:=!behind.contains j) (by rw[QV (dF (p4 _ _ hb)),tV ju hbu];rfl) ?_;cases c2:behind.contains j with
   | true=>exact bf rfl (f (by show(!(y.x.D i).ah.contains j&&!behind.contains j)=false;rw[c1,c2];rfl))
   | false=>exact bt rfl (t (by show(!(y.x.D i).ah.contains j&&!behind.contains j)=true;rw[c1,c2];rfl))
 rw[kq]
 refineλe5 h5=>?_
 have p5:=p4.new (.list (0,0) (fQ ((y.x.D i).mx.reverse.filter λx=>!(y.x.D i).ah.contains x&&!behind.contains x))) h5;have e3':(fQ (y.x.D i).ah).reverse++[.str (fC i) 0]=fQ ((y.x.D i).ah.reverse++[i]):=by rw[DF];exact nv _ [i]
 have la:=cJ _ (gB (O.ls i).2);have lm:=cJ _ (gB (O.ls i).1);have lf:=jh (λx=>!(y.x.D i).ah.contains x&&!behind.contains x) (y.x.D i).mx.reverse;rw[gh] at lf;refine Gy (aI (aI (aA ..) h4) h5) (aA ..) ⟨by rw[e3',cP,gu,gh,jg];exact k6 (j8 la) (),by rw[cP];exact k6 (fu lf lm) ()⟩ λe6 h6=>?_;have eo:(fQ (y.x.D i).ah).reverse++[.str (fC i) 0]++fQ ((y.x.D i).mx.reverse.filter λx=>!(y.x.D i).ah.contains x&&!behind.contains x)=fQ (mD y.x.D behind i):=by rw[e3',nv];rfl
 rw[eo];have p6:=p5.new (.list (0,0) (fQ (mD y.x.D behind i))) h6;let z7:=(y.z.pu _ p6).drop;have l7:Le y.z z7:=((Le.refl y.z).pu _ p6).drop;have b7:z7.P b=some (.list tb (fQ behind)):=cR (p6 _ _ hb) rfl;have o7:z7.P e6=some (.list (0,0) (fQ (mD y.x.D behind i))):=cR (aA ..) rfl
 have ou:∀ j∈mD y.x.D behind i,j∈pn:=λj hj=>by
  rcases cy hj with h|h
  ·rcases cy h with h|h
   ·exact jE _ (O.ls i).2 j (d8 h)
   ·rw[cu h];exact iu
  ·exact jE _ (O.ls i).1 j (d8 (d9 h).1)
 have ol:(mD y.x.D behind i).length<big:=by unfold mD;rw[gu,gu,gh,jg];exact k6 (Nat.add_le_add (j8 la) (fu lf lm)) ()
 refineλq=>EN b7 (by rw[cP];exact gy hbl ()) (AH (λx=>!(mD y.x.D behind i).contains x) (λq=>dF b7) behind [] (λj hj r t f=>?_) ?_)
 ·refineλq=>bW (b:=!(mD y.x.D behind i).contains j) (aj (Option.map (λx=>!x)) ((QV (dF o7)).trans (tV (hbu j hj) ou))) ?_
  cases c:(mD y.x.D behind i).contains j with
  | true=>exact bf rfl (f (by show(!(mD y.x.D behind i).contains j)=false;rw[c];rfl))
  | false=>exact bt rfl (t (by show(!(mD y.x.D behind i).contains j)=true;rw[c];rfl))
 rw[kq]
 refineλe7 h7=>Gy (aI o7 h7) (aA ..) ⟨by rw[cP];exact ol,by rw[cP];exact k6 (jh _ _) (gy hbl ())⟩ λe8 h8=>?_
 let z8:=z7.new e7 (.list (0,0) (fQ (behind.filter λx=>!(mD y.x.D behind i).contains x))) h7;have l8:Le y.z z8:=l7.new _ h7;exact hq (z8.new e8 _ h8).drop e8 (l8.new _ h8).drop (z8.un h8) ((Nw.none z8 h8).of l8) (cR ((aA ..).trans (aj (λv=>some (PO.list (0,0) v)) (nv _ _))) rfl)
theorem HZ{D:Nat->iT}{behind:List Nat}(hi:i∈pn)(hm:∀ j∈(D i).mx,j∈pn)(ha:∀ j∈(D i).ah,j∈pn)(hb:∀ j∈behind,j∈pn):∀ j∈wz D behind i,j∈pn:=λj hj=>by
 rcases cy hj with h|h
 ·rcases cy h with h|h
  ·rcases cy h with h|h
   ·exact ha j (d8 h)
   ·rw[cu h];exact hi
  ·exact hm j (d8 (d9 h).1)
 ·exact hb j (d9 h).1
theorem qc{D:Nat->iT}{behind:List Nat}(hm:(D i).mx∈oh)(ha:(D i).ah∈oh):(wz D behind i).length<=5+behind.length:=by
 have h1:=cJ _ (gB hm);have h2:=cJ _ (gB ha);have h3:=jh (λx=>!(D i).ah.contains x&&!behind.contains x) (D i).mx.reverse;have h4:=jh (λx=>!(mD D behind i).contains x) behind;rw[gh] at h3;unfold wz;rw[gu];have:(mD D behind i).length<=5:=by unfold mD;rw[gu,gu,gh,jg];lia
 lia
theorem kJ(y:Y w BX RD)(O:Bx y.x)(hi:i∈y.x.ids)(hq:∀(z':Z w y.C []) e,Le y.z z'->z'.h e=none->Nw y.z e->z'.P e=some (.list (0,0) (fQ (iK y.x.D i)))->Q (.ref e) z'.P):Calls (m+2) 1099 [.ref RD,.str (fC i) 0] y.z.P X Q:=by
 have iu:=O.ids i hi
 have base:∀(y:Y w BX RD) (O:Bx y.x) (j:Nat) (hj:j∈y.x.ids) (X:XP) (Q:VQ) (m:Nat),nP j=.none->(∀(z':Z w y.C []) e,Le y.z z'->z'.h e=none->Nw y.z e->z'.P e=some (.list (0,0) (fQ (wz y.x.D [] j)))->Q (.ref e) z'.P)->Calls (m+1) 1099 [.ref RD,.str (fC j) 0] y.z.P X Q:=λy O j hj X Q m hp hq=>by
  refine fS 91 rfl rfl rfl λq=>aO (v:=.ref (y.x.r j 0)) y.L.rows (bC (O.ids j hj) O.ids hj) ?_;let y1:=y.go y.z.drop (Le.refl y.z).drop
  refineλq=>aO (v:=.none) (y1.row (i:=j) hj (k:=0) ()) (by show some (nP j)=_;rw[hp]) ⟨rfl,bl,λb hb=>?_⟩
  let z2:=(y1.z.new b (.list (0,0) []) hb).drop;have l2:Le y.z z2:=((Le.refl y.z).drop.new _ hb).drop;exact xJ (y.go z2 l2) O hj (b:=b) (behind:=[]) (cR (aA ..) rfl) (λq h=>absurd h gk) () λz' e l u n h=>hq z' e (l2.trans l) u (n.of l2) h
 by_cases hp:i=13\/i=14
 ·unfold iK at hq
  rw[ai hp] at hq;refine fS 91 rfl rfl rfl λq=>aO (v:=.ref (y.x.r i 0)) y.L.rows (bC iu O.ids hi) ?_;let y1:=y.go y.z.drop (Le.refl y.z).drop;have ps:nP i=.str "B" 0:=by rcases hp with rfl|rfl<;>rfl
  refineλq=>aO (v:=.str "B" 0) (y1.row (i:=i) hi (k:=0) ()) (by show some (nP i)=_;rw[ps]) ⟨rfl,λq=>aO (v:=.str "B" 0) (y1.row (i:=i) hi (k:=0) ()) (by show some (nP i)=_;rw[ps]) (base y1 O 12 O.b.1 _ _ m rfl λz' b l u n h=>?_)⟩
  let z2:=z'.drop;have l2:Le y.z z2:=((Le.refl y.z).drop.trans l).drop;have lm:=qc (i:=12) (behind:=[]) (O.ls 12).1 (O.ls 12).2;exact xJ (y.go z2 l2) O hi (b:=b) (behind:=wz y.x.D [] 12) (cR h rfl) (HZ ⋯ (jE _ (O.ls 12).1) (jE _ (O.ls 12).2) λq h=>absurd h gk) (k6 lm ()) λz' e l u n h=>hq z' e (l2.trans l) u (n.of l2) h
 ·unfold iK at hq
  rw[aa hp] at hq;refine base y O i hi X Q (m+1) ?_ hq;unfold nP;rw[aa λh=>hp (.inl h),aa λh=>hp (.inr h)]
end
end
theorem NN:∀ l∈oh,∀ j∈l,j=15\/j=16:=⋯
theorem uT{x:Lx}(O:Bx x){i:Nat}(hi:i∈x.ids){behind:List Nat}(hb:∀ j∈behind,j∈x.ids):∀ j∈wz x.D behind i,j∈x.ids:=λj hj=>by
 have mn:∀ l∈oh,∀ j∈l,j∈x.ids:=λl hl j hj=>by
  rcases NN l hl j hj with rfl|rfl
  ·exact O.b.2.1
  ·exact O.b.2.2
 rcases cy hj with h|h
 ·rcases cy h with h|h
  ·rcases cy h with h|h
   ·exact mn _ (O.ls i).2 j (d8 h)
   ·rw[cu h];exact hi
  ·exact mn _ (O.ls i).1 j (d8 (d9 h).1)
 ·exact hb j (d9 h).1
theorem mw{x:Lx}(O:Bx x){i:Nat}(hi:i∈x.ids):∀ j∈iK x.D i,j∈x.ids:=by
 unfold iK;by_cases h:i=13\/i=14
 ·rw[ai h];exact uT O hi (uT O O.b.1 λq h=>absurd h gk)
 ·rw[aa h];exact uT O hi λq h=>absurd h gk
theorem mz{x:Lx}(O:Bx x)(i:Nat):(iK x.D i).length<=10:=by
 have h1:=qc (i:=12) (behind:=[]) (O.ls 12).1 (O.ls 12).2;rw[j3] at h1;unfold iK;by_cases h:i=13\/i=14
 ·rw[ai h]
  have h2:=qc (i:=i) (behind:=wz x.D [] 12) (O.ls i).1 (O.ls i).2;lia
 ·rw[aa h]
  have h2:=qc (i:=i) (behind:=[]) (O.ls i).1 (O.ls i).2;rw[j3] at h2;lia
theorem rD{k:Str}{tp:Str->Ad}:∀{mt:List (Str × Ent)},aR k (x7 mt tp)=(mt.lookup k).map λd=>match d with|none=>.none|some _=>.ref (tp k):=by
 intro rr;induction rr with
 | nil=>exact rfl
 | cons q mt ih=>
  show(if q.1=k then some _ else aR k (x7 mt tp))=_;by_cases e:q.1=k
  ·subst e;rw[ai rfl,f6,bg];rfl
  ·rw[aa e,f6,beq_eq_false_iff_ne.mpr (gz e)];exact ih
noncomputable def findD(D:Nat->iT)(x:Str):List Nat->Ent
 | []=>none
 | i::l=>match (D i).mt.lookup x with
  | some d=>d
  | none=>findD D x l
theorem yx{D:Nat->iT}{x:Str}{i:Nat}{l:List Nat}:findD D x (i::l)=match (D i).mt.lookup x with
  | some d=>d
  | none=>findD D x l:=rfl
noncomputable def kM(D:Nat->iT)(x:Str):List Nat->Op Int
 | []=>none
 | i::l=>match (D i).ct.lookup x with
  | some d=>some d
  | none=>kM D x l
theorem GW{D:Nat->iT}{x:Str}{i:Nat}{l:List Nat}:kM D x (i::l)=match (D i).ct.lookup x with
  | some d=>some d
  | none=>kM D x l:=rfl
noncomputable def iF(D:Nat->iT)(x:Str)(i:Nat):Op Int:=match (D i).al.lookup x with
 | some d=>some d
 | none=>if i=13\/i=14 then(D 12).al.lookup x else none
noncomputable def qG(y:Y w BX RD)(v:Va):Ent->Prop
 | none=>v=.none
 | some d=>∃ e,v=.ref e/\y.z.P e=some (.tup [.int d.1 0,.str d.2 0])/\y.x.g e=some (9,99)
noncomputable def PX:Op Int->Va
 | none=>.str "error NameError" 0
 | some v=>.int v 0
noncomputable def TP:Op Int->Va
 | none=>.none
 | some v=>.int v 0
section
variable{m:Nat}{X:XP}{Q:VQ}{i:Nat}
theorem yy{k:Str}{l:List (Str × Int)}:aR k (JV l)=(l.lookup k).map λv=>.int v 0:=BY
theorem B8(y:Y w BX RD)(O:Bx y.x){N:NP}{v1:Op Va}{e:Ad}{o:PO}(he:y.z.P e=some o):∀(l:List Nat) (v3:Op Va),(∀ j∈l,j∈y.x.ids)->(∀ v,qG y v (findD y.x.D x l)->Q v y.z.P)->(∀ v3,findD y.x.D x l=none->(∀ v,qG y v none->Q v y.z.P)->N [some (.ref RD),v1,some (.str x 0),v3,none] y.z.P)->cL (λv l P' k=>wpS m (fF 5) (match qy with|.seq (.loop _ _ b) _=>b|_=>.skip) (l.set 3 (some v)) (jV (fF 5) 3 P') X k Q) (λP'=>P' e=some o) (fQ l) [some (.ref RD),v1,some (.str x 0),v3,none] y.z.P N:=by
 intro rr;induction rr with
 | nil=>exactλv3 u hq h=>h v3 rfl hq
 | cons j l ih=>
  intro v3 hl hq h;have hj:=hl j (.head _);have r0:=y.row hj (k:=0) ();have r1:=y.row hj (k:=1) ()
  refineλu=>aO (v:=.ref (y.x.r j 0)) y.L.rows (bC (O.ids j hj) O.ids hj) λu=>aO (v:=.ref (y.x.r j 1)) r0 rfl λu=>bW (inD (dF r1)) ?_
  rw[rD];cases q:(y.x.D j).mt.lookup x with
  | none=>refine⟨he,ih _ (λy hy=>hl y (.tail _ hy)) (λv hv=>hq v (by rw[yx];rw[q];exact hv)) λv3 e1=>h v3 (by rw[yx];rw[q];exact e1)⟩
  | some d=>
   have hq:∀ v,qG y v d->Q v y.z.P:=λv hv=>hq v (by rw[yx];rw[q];exact hv)
   refineλu=>aO (v:=.ref (y.x.r j 0)) y.L.rows (bC (O.ids j hj) O.ids hj) λu=>aO (v:=.ref (y.x.r j 1)) r0 rfl λu=>?_
   cases d with
   | none=>exact aO (v:=.none) r1 (by rw[rD,q];rfl) (hq _ rfl)
   | some d=>have t:=y.L.tup j hj _ (yS q) d rfl;exact aO (v:=.ref (y.x.tp j x)) r1 (by rw[rD,q];rfl) (hq _ ⟨_,rfl,t⟩)
theorem rQ(y:Y w BX RD)(O:Bx y.x)(hi:i∈y.x.ids)(hq:∀(z':Z w y.C []) v (l:Le y.z z'),qG (y.go z' l) v (findD y.x.D x (iK y.x.D i))->Q v z'.P):Calls (m+3) 1106 [.ref RD,.str (fC i) 0,.str x 0] y.z.P X Q:=by refine aB 92 rfl rfl rfl (kJ (m:=m) y O hi λz1 e l1 u n h=>cO h (by rw[cP];exact k6 (mz O i) ()) ?_);exact B8 (m:=m+2) (y.go z1 l1) O h (iK y.x.D i) none (mw O hi) (λv hv=>hq z1 v l1 hv) λv3 q hv=>hv .none rfl
theorem BV(y:Y w BX RD)(O:Bx y.x){N:NP}{v1:Op Va}{e:Ad}{o:PO}(he:y.z.P e=some o):∀(l:List Nat) (v3:Op Va),(∀ j∈l,j∈y.x.ids)->Q (PX (kM y.x.D x l)) y.z.P->(∀ v3,Q (PX none) y.z.P->N [some (.ref RD),v1,some (.str x 0),v3,none] y.z.P)->cL (λv l P' k=>wpS m (fF 5) (match qx with|.seq (.loop _ _ b) _=>b|_=>.skip) (l.set 3 (some v)) (jV (fF 5) 3 P') X k Q) (λP'=>P' e=some o) (fQ l) [some (.ref RD),v1,some (.str x 0),v3,none] y.z.P N:=by
 intro rr;induction rr with
 | nil=>exactλv3 u hq h=>h v3 hq
 | cons j l ih=>
  intro v3 hl hq h;have hj:=hl j (.head _);have r0:=y.row hj (k:=0) ();have r3:=y.row hj (k:=3) ()
  refineλu=>aO (v:=.ref (y.x.r j 0)) y.L.rows (bC (O.ids j hj) O.ids hj) λu=>aO (v:=.ref (y.x.r j 3)) r0 rfl λu=>bW (inD (dF r3)) ?_
  rw[yy];rw[GW] at hq;cases q:(y.x.D j).ct.lookup x with
  | none=>rw[q] at hq;exact⟨he,ih _ (λy hy=>hl y (.tail _ hy)) hq h⟩
  | some d=>
   rw[q] at hq
   exactλu=>aO (v:=.ref (y.x.r j 0)) y.L.rows (bC (O.ids j hj) O.ids hj) λu=>aO (v:=.ref (y.x.r j 3)) r0 rfl λu=>aO (v:=.int d 0) r3 (by rw[yy,q];rfl) hq
theorem zX(y:Y w BX RD)(O:Bx y.x)(hi:i∈y.x.ids)(hq:∀(z':Z w y.C []),Le y.z z'->Q (PX (kM y.x.D x (iK y.x.D i))) z'.P):Calls (m+3) 1155 [.ref RD,.str (fC i) 0,.str x 0] y.z.P X Q:=by refine aB 99 rfl rfl rfl (kJ (m:=m) y O hi λz1 e l1 u n h=>cO h (by rw[cP];exact k6 (mz O i) ()) ?_);exact BV (m:=m+2) (y.go z1 l1) O h (iK y.x.D i) none (mw O hi) (hq z1 l1) λv3 h=>h
theorem tU(y:Y w BX RD)(O:Bx y.x){j:Nat}(hj:j∈y.x.ids){k:NP}(h1:∀ v,(y.x.D j).al.lookup x=some v->Q (.int v 0) y.z.P)(h2:(y.x.D j).al.lookup x=none->k [some (.ref RD),some (nP j),some (.str x 0)] y.z.P):
  wpS m [false,false,false] (match qw with|.seq (.sO _ b) _=>b|_=>.skip) [some (.ref RD),some (.str (fC j) 0),some (.str x 0)] y.z.P X k Q:=by
 have r0:=y.row hj (k:=0) ();have r2:=y.row hj (k:=2) ()
 refineλu=>aO (v:=.ref (y.x.r j 0)) y.L.rows (bC (O.ids j hj) O.ids hj) λu=>aO (v:=.ref (y.x.r j 2)) r0 rfl λu=>bW (inD (dF r2)) ?_
 rw[yy];cases q:(y.x.D j).al.lookup x with
 | none=>exactλu=>aO (v:=.ref (y.x.r j 0)) y.L.rows (bC (O.ids j hj) O.ids hj) λu=>aO (v:=nP j) r0 rfl (h2 q)
 | some d=>exactλu=>aO (v:=.ref (y.x.r j 0)) y.L.rows (bC (O.ids j hj) O.ids hj) λu=>aO (v:=.ref (y.x.r j 2)) r0 rfl λu=>aO (v:=.int d 0) r2 (by rw[yy,q];rfl) (h1 d q)
theorem zW(y:Y w BX RD)(O:Bx y.x)(hi:i∈y.x.ids)(hq:Q (TP (iF y.x.D x i)) y.z.P):Calls (m+1) 1162 [.ref RD,.str (fC i) 0,.str x 0] y.z.P X Q:=by
 unfold iF at hq;refine aB 100 rfl rfl rfl ⟨3,rfl,tU (m:=m) y O hi (λv e=>by rw[e] at hq;exact hq) λe=>?_⟩;rw[e] at hq;by_cases hp:i=13\/i=14
 ·have ps:nP i=.str "B" 0:=by rcases hp with rfl|rfl<;>rfl
  have hq:Q (TP ((y.x.D 12).al.lookup x)) y.z.P:=by have:=hq;simp only[ai hp] at this;exact this
  rw[ps];exact⟨rfl,tU (m:=m) (j:=12) y O O.b.1 (λv e=>by rw[e] at hq;exact hq) λe=>by rw[e] at hq;exact⟨rfl,hq⟩⟩
 ·have hq:Q .none y.z.P:=by have:=hq;simp only[aa hp] at this;exact this
  have ps:nP i=.none:=by unfold nP;rw[aa λh=>hp (.inl h),aa λh=>hp (.inr h)]
  rw[ps];exact⟨rfl,hq⟩
end
section
noncomputable def Sx(P:PH)(v:Va):Ent->Prop
 | none=>v=.none
 | some d=>∃ e,v=.ref e/\P e=some (.tup [.int d.1 0,.str d.2 0])
section
variable{m:Nat}{X:XP}{Q:VQ}{i:Nat}{P0:PH}
theorem yh{C:Cont}{z:Z w C []}{v:Va}{o:Ent}(hv:Gl z v o)(hq:∀ P' u,Pu z.P P'->Sx P' u o->Q u P'):Calls (m+1) 1113 [v] z.P X Q:=by
 refine aB 93 rfl rfl rfl ?_;cases o with
 | none=>have hv:v=.none:=hv;subst hv;exact⟨rfl,hq _ _ (Pu.refl _) rfl⟩
 | some d=>obtain⟨e,r,rfl,h,_⟩:=hv;exact⟨rfl,aG (v:=.int d.1 0) h rfl rfl rfl (aG (v:=.str d.2 0) h rfl rfl rfl ⟨bl,λf hf=>hq _ _ ((Pu.refl _).new _ hf) ⟨f,rfl,aA ..⟩⟩)⟩
structure Gp(P0 P':PH)(r:Nat->Ad)(a:Ad)(par:Va):Prop where
 pu:Pu P0 P'
 fr:∀ k,k<6->P0 (r k)=none
 Mr:P' (r 0)=some (.dict (0,0) [("thing",.ref a),("parent",par),("methods",.ref (r 1)),("alone",.ref (r 2)),("consts",.ref (r 3)),("mixed",.ref (r 4)),("front",.ref (r 5))])
 UR:P' (r 1)=some (.dict (0,0) [])
 at2:P' (r 2)=some (.dict (0,0) [])
 US:P' (r 3)=some (.dict (0,0) [])
 UT:P' (r 4)=some (.list (0,0) [])
 UU:P' (r 5)=some (.list (0,0) [])
 ne:[r 5,r 4,r 3,r 2,r 1,r 0].Nodup
noncomputable def r6(a b c d e f:Ad):Nat->Ad
 | 0=>a
 | 1=>b
 | 2=>c
 | 3=>d
 | 4=>e
 | _=>f
theorem xo{a:Ad}{pv:Va}(hq:∀ P' r,Gp P0 P' r a pv->Q (.ref (r 0)) P'):Calls (m+1) 1094 [.ref a,pv] P0 X Q:=by
 refine aB 90 rfl rfl rfl ⟨⟨⋯,(),()⟩,λd hd f1 h1 f2 h2 f3 h3=>⟨bl,λf4 h4=>⟨bl,λf5 h5=>⟨rfl,?_,?_⟩⟩⟩⟩
 ·exact aI (aI (aI (aI (aI (aA ..) h1) h2) h3) h4) h5
 have s0:∀ y∈[d],upd P0 d (.dict (0,0) []) y≠none:=λy hy=>by rw[cu hy,aA];intro q;cases q
 have st:∀{Ph:PH} {f:Ad} {o:PO} {l:List Ad},(∀ y∈l,Ph y≠none)->∀ y∈f::l,upd Ph f o y≠none:=λ{Ph f o l} s y hy=>by
  by_cases q:y=f
  ·rw[q,aA];intro z;cases z
  ·rw[aD q];exact s y ((ku hy).resolve_left q)
 have s1:=st (f:=f1) (o:=.dict (0,0) []) s0;have s2:=st (f:=f2) (o:=.dict (0,0) []) s1;have s3:=st (f:=f3) (o:=.dict (0,0) []) s2;have s4:=st (f:=f4) (o:=.list (0,0) []) s3;have nd:∀{Ph:PH} {f:Ad} {l:List Ad},Ph f=none->(∀ y∈l,Ph y≠none)->f∉l:=λh s m=>s _ m h;have n1:=nd h1 s0;have n2:=nd h2 s1;have n3:=nd h3 s2;have n4:=nd h4 s3;have n5:=nd h5 s4;have p0:=(Pu.refl P0).new (.dict (0,0) []) hd;have p1:=p0.new (.dict (0,0) []) h1;have p2:=p1.new (.dict (0,0) []) h2;have p3:=p2.new (.dict (0,0) []) h3;have p4:=p3.new (.list (0,0) []) h4;have p5:=p4.new (.list (0,0) []) h5;have hnd:[f5,f4,f3,f2,f1,d].Nodup:=dh ⟨n5,dh ⟨n4,dh ⟨n3,dh ⟨n2,dh ⟨n1,dh ⟨gk,List.nodup_nil⟩⟩⟩⟩⟩⟩;have nf:∀{f:Ad} {l:List Ad},f∉l->d∈l->f≠d:=λn m q=>n (by rw[q];exact m);refine hq _ (r6 d f1 f2 f3 f4 f5) ⟨p5.put _ hd,λk hk=>?_,aA ..,?_,?_,?_,?_,?_,hnd⟩
 ·exact six (p:=λk=>P0 (r6 d f1 f2 f3 f4 f5 k)=none) hd (p0.un h1) (p1.un h2) (p2.un h3) (p3.un h4) (p4.un h5) k hk
 ·exact(aD (nf n1 (.head _))).trans (aI (aI (aI (aI (aA ..) h2) h3) h4) h5)
 ·exact(aD (nf n2 (.tail _ (.head _)))).trans (aI (aI (aI (aA ..) h3) h4) h5)
 ·exact(aD (nf n3 (.tail _ (.tail _ (.head _))))).trans (aI (aI (aA ..) h4) h5)
 ·exact(aD (nf n4 (.tail _ (.tail _ (.tail _ (.head _)))))).trans (aI (aA ..) h5)
 ·exact(aD (nf n5 (.tail _ (.tail _ (.tail _ (.tail _ (.head _))))))).trans (aA ..)
noncomputable def Y.jT(y:Y w BX RD)(b:Int × Int):Y w BX RD:=
 ⟨y.C,y.z.put BX (.list (0,0) [.int b.1 0,.int b.2 0]) (y.L.un _ _ y.L.oB).1,{ y.x with bx:=b },by have ne:∀{c t},y.x.g c=some t->t≠(7,99)->c≠BX:=λg n=>gA g y.L.oB n;exact⟨aA ..,(aD (ne y.L.oR ())).trans y.L.rows,λi hi k hk=>have r:=y.L.row i hi k hk;⟨(aD (ne r.2 λq=>absurd hk (by rw[show k=7 from aj Prod.fst q];decide))).trans r.1,r.2⟩,λi hi q hq d hd=>have r:=y.L.tup i hi q hq d hd;⟨(aD (ne r.2 ())).trans r.1,r.2⟩,y.L.th,λc t g=>⟨(y.L.un c t g).1,stand rfl (y.L.un c t g).2⟩,y.L.oB,y.L.oR,λt ht=>(y.L.tb t ht).imp λes q=>⟨(aD (ne q.2.1 eW)).trans q.1,q.2.1,λk c e=>⟨(aD (ne (q.2.2 k c e).2 ())).trans (q.2.2 k c e).1,(q.2.2 k c e).2⟩⟩⟩⟩
theorem Lf.jT{y0 y:Y w BX RD}(a:Lf y0 y)(b:Int × Int):Lf y0 (y.jT b):=a.trans
 ⟨λc o p j q r=>⟨(aD λe=>by rw[e,y.L.oB] at r;cases r).trans p,q,r⟩,λc o p j q=>⟨(aD (gA q y.L.oB λe=>by cases e)).trans p,q⟩⟩
theorem t8(y:Y w BX RD){n:Int}(hn:0<n/\n<2^60)(hb:0<=y.x.bx.2/\y.x.bx.2<2^40)(hq:∀(d:Int) (b:Int),0<=d->d<n->Q (.int d 0) (y.jT (b,y.x.bx.2+1)).z.P):Calls (m+1) 1080 [.ref BX,.int n 0] y.z.P X Q:=by
 refine aB 88 rfl rfl rfl (cB (v:=.int y.x.bx.2 0) y.L.box () () rfl (Jo y.L.box ⟨(),bl,bl⟩ ?_));let y1:=y.jT (y.x.bx.1,y.x.bx.2+1);refine cB (v:=.int y.x.bx.1 0) y1.L.box () () rfl ?_;have bn:y1.x.bx.2.natAbs<2^60:=by show(y.x.bx.2+1).natAbs<_;lia
 by_cases h0:y.x.bx.1=0
 ·refine bt (au h0) (cB (v:=.int y1.x.bx.2 0) y1.L.box () () rfl ⟨bn,cB (v:=.int y1.x.bx.2 0) y1.L.box () () rfl ⟨bn,cB (v:=.int y1.x.bx.2 0) y1.L.box () () rfl ⟨(),hn.1,hq _ _ (Int.emod_nonneg _ (by lia)) (Int.emod_lt_of_pos _ hn.1)⟩⟩⟩)
 ·refine bf (av h0) (cB (v:=.int y.x.bx.1 0) y1.L.box () () rfl ⟨hn.1,cB (v:=.int y.x.bx.1 0) y1.L.box () () rfl ⟨hn,Jo y1.L.box ⟨(),bl,bl⟩ ?_⟩⟩)
  have e:((y1.jT (y.x.bx.1/n,y.x.bx.2+1)).z.P)=(y.jT (y.x.bx.1/n,y.x.bx.2+1)).z.P:=Mi ..;show Q _ (y1.jT (y.x.bx.1/n,y.x.bx.2+1)).z.P;rw[e];exact hq _ _ (Int.emod_nonneg _ (by lia)) (Int.emod_lt_of_pos _ hn.1)
theorem fU{C:Cont}{f:Ad}{k:Nat}{vs:List Va}(hf:P0 f=some (.lam k vs))(h:Calls m f [] P0 (λe P'=>∃ z':Z w C [],P'=z'.P/\w6 z' e/\Q (.str "error NameError" 0) z'.P) (λq P'=>Q (.str "done" 0) P')):Calls (m+1) 1087 [.ref f] P0 X Q:=by refine aB 89 rfl rfl rfl ⟨.inr ⟨rfl,k,vs,hf⟩,Calls.mono h (f7 _) (λe P' hx=>?_) λq q hv=>hv⟩;obtain⟨z',rfl,⟨fs,t,num,b,fd,u,h1,h2,h3,h4⟩,hq⟩:=hx;refine⟨⟨fs,h1⟩,bl,Qh h1 ⋯ h2 rfl (aG (v:=.ref b) h3 rfl rfl rfl (aG (v:=.str "NameError" 0) (z'.at_ h4 nn) rfl rfl rfl ⟨⟨bl,bl⟩,?_⟩))⟩;have e2:("error ":Str)++("NameError":Str)="error NameError":=⋯;rw[e2];exact hq
end
end
section
noncomputable def oK(mt:List (Str × Ent)):List (Str × Int):=mt.map λq=>(q.1,match q.2 with|some d=>d.1|none=>0)
noncomputable def sR(C:Cont)(i:Nat):List (Str × Int):=match cU i with|some o=>oK (C.c o).mt|none=>[]
noncomputable def rowOf(C:Cont)(i:Nat):iT:=⟨(C.c i).mt,(C.c i).ct,(C.c i).mx,(C.c i).ah,sR C i⟩
structure Inv(y:Y w BX RD):Prop where
 O:Bx y.x
 D:∀ i∈y.x.ids,y.x.D i=rowOf y.C i
 V:eK y.C
 L:r9 y.C
 b:(∃ c,y.z.A.ad 1=some c)/\(∃ c,y.z.A.ad 3=some c)
 al:∀ i o,cU i=some o->∀ q∈(y.C.c o).mt,∃ t,q.2=some (t,("public":Str))
 lk:∀ i p,par i=some p->(cU p).isSome=true->y.C.lk i=true->y.C.lk p=true
 Ho:14∉y.x.ids->y.z.A.ad 14=none/\(y.C.c 14)=dX
 bx:0<=y.x.bx.2
structure Nx(k:Nat)(y y':Y w BX RD):Prop where
 I:Inv y'
 f:Lf y y'
 ids:y'.x.ids=y.x.ids
 bx:y'.x.bx.2<=y.x.bx.2+k
 A:∀ i a,y.z.A.ad i=some a->y'.z.A.ad i=some a
theorem pick(l:List Str)(d:Int)(h0:0<=d)(h1:d<l.length):∃ s∈l,(l.map λs=>Value.str s 0)[d.toNat]?=some (.str s 0):=by
 have h:d.toNat<l.length:=by lia
 exact⟨l[d.toNat],j9 h,by rw[gj,f9 h];rfl⟩
noncomputable def UM(e:Ad):Ent->Va
 | none=>.none
 | some _=>.ref e
theorem Pz{x:Str}{d:Ent}{e:Ad}{tp:Str->Ad}{mt:List (Str × Ent)}(nd:(mt.map (·.1)).Nodup):cT x (UM e d) (x7 mt tp)=x7 (cQ x d mt) λy=>if y=x then e else tp y:=
 qo (g:=λq=>match q.2 with|none=>.none|some _=>.ref (tp q.1)) (g':=λq=>match q.2 with|none=>.none|some _=>.ref (if q.1=x then e else tp q.1)) nd (by cases d with
  | none=>rfl
  | some d=>exact aj Value.ref (ai rfl)) λq j n=>by
  obtain⟨k,o⟩:=q;cases o with
  | none=>rfl
  | some d=>exact aj Value.ref (aa n)
variable{i:Nat}
noncomputable def Y.wL(y:Y w BX RD)(hi:i∈y.x.ids)(x:Str)(d:Ent)(e:Ad)(nd:((y.x.D i).mt.map (·.1)).Nodup)(he:∀ dd,d=some dd->y.z.P e=some (.tup [.int dd.1 0,.str dd.2 0])/\y.z.h e=none/\(y.x.g e=none\/y.x.g e=some (9,99))):Y w BX RD:=
 y.setM hi (cQ x d (y.x.D i).mt) (λk=>if k=x then e else y.x.tp i k) (λc=>if c=e/\d.isSome=true then some (9,99) else y.x.g c)
  (λc t q=>by
   by_cases z:c=e/\d.isSome=true
   ·rw[ai z]
    obtain⟨dd,hd⟩:=cz z.2;rcases (he dd hd).2.2 with g|g
    ·rw[z.1,g] at q;cases q
    ·rw[z.1,g] at q;exact q
   ·rw[aa z];exact q)
  (λc t q=>by
   by_cases z:c=e/\d.isSome=true
   ·obtain⟨dd,hd⟩:=cz z.2
    rw[z.1];exact⟨(he dd hd).2.1,_,(he dd hd).1,rfl⟩
   ·exact y.L.un c t ((aa z).symm.trans q))
  λq hq dd hd=>by
   rcases nA nd hq with h|⟨h,n⟩
   ·have h1:q.1=x:=by rw[h]
    have h2:d=some dd:=by rw[<-hd,h]
    rw[ai h1];exact⟨(he dd h2).1,ai ⟨rfl,by rw[h2];rfl⟩⟩
   ·rw[aa n]
    have t:=y.L.tup i hi q h dd hd;refine⟨t.1,?_⟩;by_cases z:y.x.tp i q.1=e/\d.isSome=true
    ·exact ai z
    ·exact(aa z).trans t.2
theorem Y.zd(y:Y w BX RD)(hi:i∈y.x.ids)(x:Str)(d:Ent)(e:Ad)(nd:((y.x.D i).mt.map (·.1)).Nodup)(he):(y.wL hi x d e nd he).z.P=upd y.z.P (y.x.r i 1) (.dict (0,0) (cT x (UM e d) (x7 (y.x.D i).mt (y.x.tp i)))):=by rw[Pz nd];rfl
theorem Lf.wL{y0 y:Y w BX RD}(a:Lf y0 y)(hi:i∈y.x.ids)(x:Str)(d:Ent)(e:Ad)(nd:((y.x.D i).mt.map (·.1)).Nodup)(he)(hn:d.isSome=true->∀ o,y0.z.P e=some o->o.bR=false->y0.z.h e=none->y0.x.g e=none->False):Lf y0 (y.wL hi x d e nd he):=
 have R:=(y.L.row i hi 1 ()).2
 ⟨λc o p n q r=>
  have s:=a.fr c o p n q r
  ⟨(aD λz=>by rw[z,R] at s;cases s.2.2).trans s.1,s.2.1,(aa λz=>by obtain⟨z1,z2⟩:=z;subst z1;exact hn z2 o p n q r).trans s.2.2⟩,λc o p n q=>
  have s:=a.fz c o p n q
  ⟨(aD (gA s.2 R λz=>by cases z)).trans s.1,by
   show(if c=e/\d.isSome=true then some (9,99) else y.x.g c)=_;by_cases z:c=e/\d.isSome=true
   ·exact ai z
   ·rw[aa z];exact s.2⟩⟩
end
variable{i:Nat}
theorem PR{a:Int}:a<=a+((0:Nat):Int):=Int.le_of_eq (Int.add_zero a).symm
theorem Ud{a b:Int}{k l:Nat}(h:b<=a+k)(q:k<=l):b<=a+l:=jt h (Int.add_le_add_left (Int.ofNat_le.mpr q) a)
theorem SV{a b c:Int}{k l:Nat}(h:b<=a+k)(q:c<=b+l):c<=a+(k+l:Nat):=jt q (jt (Int.add_le_add_right h l) (Int.le_of_eq (Int.add_assoc a k l)))
theorem Qn{a b c d:Int}{k:Nat}(h:b<=a+k)(q:a<c)(r:c+k<=d):b<d:=Int.lt_of_le_of_lt h (Int.lt_of_lt_of_le (Int.add_lt_add_right q k) r)
theorem Vh{d:Int}(h:0<=d)(q:d<2):d=0\/d=1:=by obtain⟨n,rfl⟩:=Int.eq_ofNat_of_zero_le h;exact(by decide:∀ n:Nat,n<2->(n:Int)=0\/(n:Int)=1) n (Int.ofNat_lt.mp q)
theorem Vi{d:Int}(h:0<=d)(q:d<4):d=0\/d=1\/d=2\/d=3:=by obtain⟨n,rfl⟩:=Int.eq_ofNat_of_zero_le h;exact(by decide:∀ n:Nat,n<4->(n:Int)=0\/(n:Int)=1\/(n:Int)=2\/(n:Int)=3) n (Int.ofNat_lt.mp q)
theorem Vw{i:Nat}(h:i=12\/i=13\/i=14):12<=i:=by rcases h with h|h|h<;>rw[h]<;>decide
theorem Nx.refl{y:Y w BX RD}(I:Inv y):Nx 0 y y:=⟨I,.refl y,rfl,PR,λq q h=>h⟩
theorem Nx.trans{k l:Nat}{y y' y'':Y w BX RD}(a:Nx k y y')(b:Nx l y' y''):Nx (k+l) y y'':=⟨b.I,a.f.trans b.f,b.ids.trans a.ids,SV a.bx b.bx,λi c h=>b.A i c (a.A i c h)⟩
theorem Nx.le{k l:Nat}{y y':Y w BX RD}(a:Nx k y y')(h:k<=l):Nx l y y':=⟨a.I,a.f,a.ids,Ud a.bx h,a.A⟩
theorem NB{y y':Y w BX RD}(h:y'.C.ex 14=y.C.ex 14)(e:y.z.A.ad 14=none):y'.z.A.ad 14=none:=by
 have h1:=y.z.K.ex 14 ();have h2:=y'.z.K.ex 14 ();rw[e] at h1;rw[h,<-h1] at h2;cases q:y'.z.A.ad 14 with
 | none=>rfl
 | some a=>rw[q] at h2;cases h2
theorem Inv.go{y:Y w BX RD}(I:Inv y)(z':Z w y.C [])(l:Le y.z z'):Inv (y.go z' l):=⟨I.O,I.D,I.V,I.L,⟨I.b.1.imp λc h=>(l.ad 1 c h).1,I.b.2.imp λc h=>(l.ad 3 c h).1⟩,I.al,I.lk,λh=>⟨NB (y:=y) (y':=y.go z' l) rfl (I.Ho h).1,(I.Ho h).2⟩,I.bx⟩
theorem Nx.go{y0 y:Y w BX RD}{k:Nat}(a:Nx k y0 y)(z':Z w y.C [])(l:Le y.z z'):Nx k y0 (y.go z' l):=⟨a.I.go z' l,a.f.go z' l,a.ids,a.bx,λi c h=>(l.ad i c (a.A i c h)).1⟩
theorem Nx.box{y0 y:Y w BX RD}{k:Nat}(a:Nx k y0 y)(b:Int):Nx (k+1) y0 (y.jT (b,y.x.bx.2+1)):=⟨⟨⟨a.I.O.ids,a.I.O.b,a.I.O.ls⟩,a.I.D,a.I.V,a.I.L,a.I.b,a.I.al,a.I.lk,a.I.Ho,jt a.I.bx (Ud (k:=0) (l:=1) PR (j5 1))⟩,a.f.jT _,a.ids,SV a.bx (l:=1) (eu _),a.A⟩
theorem Ct{j o:Nat}(hi:i∈pn)(ho:cU j=some o):o≠i:=λq=>by have h:=(jP.of ho).ao;rw[q] at h;have:∀ i∈pn,gU i=none:=⋯;rw[this i hi] at h;cases h
theorem Inv.cont{y y':Y w BX RD}(I:Inv y)(hi:i∈y.x.ids){o:Co}(hC:y'.C=y.C.upd i o)(hids:y'.x.ids=y.x.ids)(hD:y'.x.D=λj=>if j=i then { y.x.D i with mt:=o.mt,ct:=o.ct,mx:=o.mx,ah:=o.ah } else y.x.D j)(ho:o.mx∈oh/\o.ah∈oh)(hA:∀ j a,y.z.A.ad j=some a->y'.z.A.ad j=some a)(hb:0<=y'.x.bx.2):Inv y':=by
 have iu:=I.O.ids i hi;have co:∀{j o'},cU j=some o'->y'.C.c o'=y.C.c o':=λh=>by rw[hC];exact dG (Ct iu h)
 have lk:y'.C.lk=y.C.lk:=by rw[hC];rfl
 have ex:y'.C.ex=y.C.ex:=by rw[hC];rfl
 refine⟨⟨by rw[hids];exact I.O.ids,by rw[hids];exact I.O.b,λj=>?_⟩,λj hj=>?_,λj o' h l=>?_,λj l=>I.L j (by rwa [lk] at l),⟨I.b.1.imp λc h=>hA 1 c h,I.b.2.imp λc h=>hA 3 c h⟩,λj o' h q hq=>I.al j o' h q (by rwa [co h] at hq),λj p h1 h2 h3=>by rw[lk] at h3 ⊢;exact I.lk j p h1 h2 h3,λh=>?_,hb⟩
 ·rw[hD]
  dsimp only;by_cases q:j=i
  ·rw[ai q];exact ho
  ·rw[aa q];exact I.O.ls j
 ·rw[hids] at hj
  rw[hD]
  have al:sR y'.C j=sR y.C j:=by
   unfold sR;cases q:cU j with
   | none=>rfl
   | some o'=>dsimp only;rw[co q]
  dsimp only;unfold rowOf;rw[al];by_cases q:j=i
  ·rw[ai q,q,show y'.C.c i=o by rw[hC];exact fX]
   have:=I.D i hi;rw[this];rfl
  ·rw[aa q,show y'.C.c j=y.C.c j by rw[hC];exact dG q]
   exact I.D j hj
 ·rw[ex,co h];rw[lk] at l;exact I.V j o' h l
 ·rw[hids] at h
  have d:=I.Ho h;refine⟨NB (by rw[ex]) d.1,?_⟩;rw[hC,dG λq=>h (by rw[q];exact hi)];exact d.2
theorem Y.w5(y:Y w BX RD){e:Ad}(h:y.z.P e=none):y.x.g e=none:=by
 cases q:y.x.g e with
 | none=>rfl
 | some t=>exact(y.L.un e t q).2.elim λo p=>by rw[h] at p;cases p.1
section
variable{m:Nat}{X:XP}{Q:VQ}
theorem draw(y:Y w BX RD)(I:Inv y)(hb:y.x.bx.2<2^30)(l:List Str){n:Int}(hn:n=l.length)(hl:0<l.length/\l.length<100){lv:List Va}(hv:lv=l.map λs=>.str s 0){e:Ad}(he:y.z.P e=none)(hq:∀ d s y',s∈l->Nx 1 y y'->y'.z.P e=some (.list (0,0) lv)->(0<=d/\d<2^62)->lv[d.toNat]?=some (.str s 0)->Q (.int d 0) y'.z.P):Calls (m+1) 1080 [.ref BX,.int n 0] (upd y.z.P e (.list (0,0) lv)) X Q:=by let y1:=y.go (y.z.new e (.list (0,0) lv) he) ((Le.refl y.z).new _ he);have n1:Nx 0 y y1:=(Nx.refl I).go _ _;subst hn;refine t8 (m:=m) y1 ⟨Int.ofNat_lt.mpr hl.1,iz (Int.ofNat_lt.mpr hl.2) ()⟩ ⟨I.bx,iz hb ()⟩ λd b h0 h1=>?_;have n2:=n1.box b;have fe:=((Lf.refl y1).jT (b,y1.x.bx.2+1)).fr e _ (aA ..) rfl (y.z.un he) (y.w5 he);obtain⟨s,hs,hg⟩:=pick l d h0 h1;exact hq d s _ hs n2 fe.1 ⟨h0,iz h1 (iz (Int.ofNat_lt.mpr hl.2) ())⟩ (by rw[hv];exact hg)
theorem xy(y:Y w BX RD)(I:Inv y)(hb:y.x.bx.2<2^30){n:Int}(hn:0<n/\n<100)(hq:∀ d:Int,0<=d->d<n->∀ y',Nx 1 y y'->Q (.int d 0) y'.z.P):Calls (m+1) 1080 [.ref BX,.int n 0] y.z.P X Q:=t8 (m:=m) y ⟨hn.1,iz hn.2 ()⟩ ⟨I.bx,iz hb ()⟩ λd b h0 h1=>hq d h0 h1 _ ((Nx.refl I).box b)
end
section
variable{m:Nat}{X:XP}{Q:VQ}
theorem CN(h:i∈pn)(h16:i≠16):¬ (i<12\/15<i/\i<19):=by have:∀ i∈pn,i≠16->¬ (i<12\/15<i/\i<19):=⋯;exact this i h h16
theorem Nx.wL{k:Nat}{y0 y:Y w BX RD}(a:Nx k y0 y)(hi:i∈y.x.ids){d:Ent}{e:Ad}(z':Z w (y.C.setM i (cQ x d (y.C.c i).mt)) [])(l:Le y.z z')(y1:Y w BX RD)(e1:y1=y.go z' l)(nd)(he)(hn:d.isSome=true->∀ o,y0.z.P e=some o->o.bR=false->y0.z.h e=none->y0.x.g e=none->False):
  Nx k y0 ((y.go z' l).wL (i:=i) hi x d e nd he):=by
 have D:=a.I.D i hi;refine⟨a.I.cont hi (o:={ y.C.c i with mt:=cQ x d (y.C.c i).mt }) rfl rfl ?_ ⟨(y.z.K.wf.u5 i ?_).1,(y.z.K.wf.u5 i ?_).2⟩ (λj c h=>(l.ad j c h).1) a.I.bx,(a.f.go z' l).wL hi x d e nd he hn,a.ids,a.bx,λj c h=>(l.ad j c (a.A j c h)).1⟩
 ·show(λj=>if j=i then { y.x.D i with mt:=cQ x d (y.x.D i).mt } else y.x.D j)=_
  rw[D];rfl
 all_goals exact(by decide +kernel:∀ i∈pn,12<=i) i (a.I.O.ids i hi)
theorem nX(y:Y w BX RD)(I:Inv y)(hb:y.x.bx.2<2^29)(hi:i∈y.x.ids)(h16:i≠16){t:Int}(hq:∀ y',Nx 2 y y'->Q (.bool true) y'.z.P):Calls (m+4) 1120 [.ref BX,.ref w.W,.ref RD,.str (fC i) 0,.int t 0] y.z.P X Q:=by
 refine aB 94 rfl rfl rfl ⟨bl,λe1 he1=>draw (m:=m+2) y I (by lia) ["x","y","z"] rfl () rfl he1 λd1 s y1 hs n1 f1 h1 g1=>cB f1 h1.1 h1.2 g1 ⟨bl,λe2 he2=>draw (m:=m+2) y1 n1.I (by have:=n1.bx;lia) ["public","private","protected"] rfl () rfl he2 λd2 s2 y2 j n2 f2 h2 g2=>cB f2 h2.1 h2.2 g2 ⟨bl,λe he=>nR (aA ..) ⟨rfl,?_⟩⟩⟩⟩;let y3:=y2.go (y2.z.new e (.tup [.str s 0,.str s2 0]) he) ((Le.refl y2.z).new _ he);have n3:Nx 2 y y3:=(n1.trans n2).go _ _;have hi3:i∈y3.x.ids:=by rw[n3.ids];exact hi
 have iu:=I.O.ids i hi;have sk:s∈bH:=(by decide +kernel:∀ s∈(["x","y","z"]:List Str),s∈bH) s hs;have rw1:=y3.L.rows;have r0:=y3.row hi3 (k:=0) ();have th:=y3.L.th i hi3
 refineλj=>aO (v:=.ref (y3.x.r i 0)) rw1 (bC iu n3.I.O.ids hi3) λj=>aO (v:=.ref (y3.x.th i)) r0 rfl λj=>aO (v:=.ref (y3.x.r i 0)) rw1 (bC iu n3.I.O.ids hi3) λj=>aO (v:=.ref (y3.x.th i)) r0 rfl (sV (m:=m+1) (Q:=λv P'=>Calls (m+3) 551 [.ref w.W,.ref (y3.x.th i),v] P' X λj P'=>wpS (m+3) (fF 10) (bV 2 mU) (some (.ref BX)::some (.ref w.W)::some (.ref RD)::some (.str (fC i) 0)::some (.int t 0)::some (.str s 0)::some (.str s2 0)::nN 3) P' X (λj P'=>Q .none P') Q) λP4 f tt p4 hf h4=>?_)
 let z4:=y3.z.pu P4 p4;have l4:Le y3.z z4:=(Le.refl y3.z).pu P4 p4;have hs4:z4.P f=some (.inst 256 (sZ (some (t,s2)) ⟨s,y3.x.th i,tt⟩)):=h4;refine zV (m:=m+1) z4 th (CN iu h16) sk hs4 (y3.z.un hf) ?_;let z5:=z4.mJ th (CN iu h16) sk hs4 (y3.z.un hf);have l5:Le y3.z z5:=l4.mJ th (CN iu h16) sk hs4 (y3.z.un hf) (Nw.none y3.z hf);refine⟨bl,λg hg=>?_⟩;let y5:=y3.go z5 l5;let z6:=z5.new g (.tup [.int t 0,.str s2 0]) hg;have l6:Le y3.z z6:=l5.new _ hg;let y6:=y3.go z6 l6;have nd:((y6.x.D i).mt.map (·.1)).Nodup:=by show((y3.x.D i).mt.map (·.1)).Nodup;rw[n3.I.D i hi3];exact(y3.z.K.wf.nd i).1
 have g6:y6.x.g g=none:=y5.w5 hg;have he:∀ dd,some (t,s2)=some dd->y6.z.P g=some (.tup [.int dd.1 0,.str dd.2 0])/\y6.z.h g=none/\(y6.x.g g=none\/y6.x.g g=some (9,99)):=λdd h=>by obtain rfl:=kr h;exact⟨aA ..,z5.un hg,.inl g6⟩
 have n7:=n3.wL hi3 (d:=some (t,s2)) (e:=g) (x:=s) z6 l6 _ rfl nd he λj o p n q r=>by have:=(n3.f.go z5 l5).fr g o p n q r;rw[show(y3.go z5 l5).z.P g=none from hg] at this;cases this.1
 refineλj=>aO (v:=.ref (y3.x.r i 0)) y6.L.rows (bC iu n3.I.O.ids hi3) λj=>aO (v:=.ref (y3.x.r i 1)) (y6.row (i:=i) hi3 (k:=0) ()) rfl (cW (y6.row (i:=i) hi3 (k:=1) ()) ?_ ?_)
 ·show(x7 (y3.x.D i).mt (y3.x.tp i)).length<big
  rw[n3.I.D i hi3];exact k6 (fu (gi (ef ..)) (y3.z.K.wf.Iv i)) ()
 ·exact Eq.mp (aj (Q (.bool true)) (Y.zd (y3.go z6 l6) hi3 s (some (t,s2)) g nd he)) (hq _ n7)
end
section
variable{m:Nat}{X:XP}{Q:VQ}{j:Nat}
theorem yz(o:Co)(way:Bool)(j:Nat)(h:(o.X way).contains j=true):o.inc way j=o:=by unfold Co.inc;rw[h];rfl
theorem s9(o:Co)(way:Bool)(j:Nat)(h:(o.X way).contains j=false):o.inc way j=o.vU way j:=by unfold Co.inc;rw[h];rfl
theorem vd(y:Y w BX RD)(I:Inv y)(hi:i∈y.x.ids)(hu:i=12\/i=13\/i=14)(hj:j∈([15,16]:List Nat))(way:Bool)(z':Z w (y.C.upd i ((y.C.c i).inc way j)) [])(l:Le y.z z'){v1 v4:Op Va}(hq:∀ y',Nx 0 y y'->Q (.bool true) y'.z.P):
  wpS m (fF 11) (bV 2 qz) (some (.ref BX)::v1::some (.ref RD)::some (.str (fC i) 0)::v4::some (.str (fC j) 0)::some (.int (if way then 1 else 0) 0)::nN 4) z'.P X (λu P'=>Q .none P') Q:=by
 let y1:=y.go z' l;have iu:=I.O.ids i hi;have ju:j∈pn:=(by decide +kernel:∀ j∈([15,16]:List Nat),j∈pn) j hj;have D:=I.D i hi;have u5:=y.z.K.wf.u5 i (Vw hu);have mono:∀ j a,y.z.A.ad j=some a->z'.A.ad j=some a:=λj a h=>(l.ad j a h).1
 refineλu=>aO (v:=.ref (y.x.r i 0)) y1.L.rows (bC iu I.O.ids hi) ⟨bl,λe he=>?_⟩
 let z2:=z'.new e (.list (0,0) [.str "mixed" 0,.str "front" 0]) he;have l2:Le y.z z2:=l.new _ he;let y2:=y.go z2 l2;have r0:=y2.row (i:=i) hi (k:=0) ();have lst:∀{k:Nat},k<6->y2.z.P (y.x.r i k)=some (cG (y.x.th i) (y.x.r i) (y.x.tp i) (y.x.D i) i k):=λh=>y2.row (i:=i) hi h;have cmm:∀{o:Co},y.C.upd i o=y.C.upd i o:=rfl;cases way with
 | false=>
  refine cB (v:=.str "mixed" 0) (aA ..) () () rfl λu=>aO (v:=.ref (y.x.r i 4)) r0 rfl λu=>bW (b:=!(y.x.D i).mx.contains j) (aj (Option.map (λb=>!b)) ((QV (dF (lst (k:=4) ()))).trans (tV ju (jE _ (by rw[D];exact u5.1))))) ?_;cases c:(y.x.D i).mx.contains j with
  | true=>
   have c':((y.C.c i).X false).contains j=true:=by rw[D] at c;exact c
   refine hq y2 ⟨I.cont (y':=y2) hi (o:=(y.C.c i).inc false j) rfl rfl ?_ ?_ (λj a h=>(l2.ad j a h).1) I.bx,(Lf.refl y).go z2 l2,rfl,PR,λj a h=>(l2.ad j a h).1⟩
   ·rw[yz _ _ _ c']
    funext k;show y.x.D k=_;by_cases q:k=i
    ·rw[ai q,q,D];rfl
    ·rw[aa q]
   ·rw[yz _ _ _ c'];exact u5
  | false=>
   have c':((y.C.c i).X false).contains j=false:=by rw[D] at c;exact c
   have ln:(fQ (y.x.D i).mx).length<big:=by rw[cP,D];exact k6 (cJ _ (gB u5.1)) ()
   have hk:∀ k',k'<6->k'≠4->cG (y2.x.th i) (y2.x.r i) (y2.x.tp i) { y.x.D i with mx:=(y.x.D i).mx++[j] } i k'=cG (y2.x.th i) (y2.x.r i) (y2.x.tp i) (y2.x.D i) i k':=six (λ_=>rfl) (λ_=>rfl) (λ_=>rfl) (λ_=>rfl) (λn=>absurd rfl n) (λ_=>rfl);let y3:=y2.wM (i:=i) (k:=4) hi () { y.x.D i with mx:=(y.x.D i).mx++[j] } rfl hk;have n3:Nx 0 y y3:=⟨I.cont (y':=y3) hi (o:=(y.C.c i).inc false j) rfl rfl (by rw[s9 _ _ _ c'];show(λk=>if k=i then { y.x.D i with mx:=(y.x.D i).mx++[j] } else y.x.D k)=_;rw[D];rfl) (by rw[s9 _ _ _ c'];exact⟨sX _ u5.1 j hj c',u5.2⟩) (λj a h=>(l2.ad j a h).1) I.bx,((Lf.refl y).go z2 l2).wM (i:=i) (k:=4) hi () { y.x.D i with mx:=(y.x.D i).mx++[j] } rfl hk,rfl,PR,λj a h=>(l2.ad j a h).1⟩
   refine⟨rU (lst (k:=4) ()),BG (lst (k:=4) ()) ln ?_⟩;refine Eq.mp (aj (Q (.bool true)) ?_) (hq y3 n3);show upd y2.z.P (y.x.r i 4) (.list (0,0) (fQ ((y.x.D i).mx++[j])))=upd y2.z.P (y.x.r i 4) (.list (0,0) (fQ (y.x.D i).mx++[.str (fC j) 0]));rw[<-nv];rfl
 | true=>
  refine cB (v:=.str "front" 0) (aA ..) () () rfl λu=>aO (v:=.ref (y.x.r i 5)) r0 rfl λu=>bW (b:=!(y.x.D i).ah.contains j) (aj (Option.map (λb=>!b)) ((QV (dF (lst (k:=5) ()))).trans (tV ju (jE _ (by rw[D];exact u5.2))))) ?_;cases c:(y.x.D i).ah.contains j with
  | true=>
   have c':((y.C.c i).X true).contains j=true:=by rw[D] at c;exact c
   refine hq y2 ⟨I.cont (y':=y2) hi (o:=(y.C.c i).inc true j) rfl rfl ?_ ?_ (λj a h=>(l2.ad j a h).1) I.bx,(Lf.refl y).go z2 l2,rfl,PR,λj a h=>(l2.ad j a h).1⟩
   ·rw[yz _ _ _ c']
    funext k;show y.x.D k=_;by_cases q:k=i
    ·rw[ai q,q,D];rfl
    ·rw[aa q]
   ·rw[yz _ _ _ c'];exact u5
  | false=>
   have c':((y.C.c i).X true).contains j=false:=by rw[D] at c;exact c
   have ln:(fQ (y.x.D i).ah).length<big:=by rw[cP,D];exact k6 (cJ _ (gB u5.2)) ()
   have hk:∀ k',k'<6->k'≠5->cG (y2.x.th i) (y2.x.r i) (y2.x.tp i) { y.x.D i with ah:=(y.x.D i).ah++[j] } i k'=cG (y2.x.th i) (y2.x.r i) (y2.x.tp i) (y2.x.D i) i k':=six (λ_=>rfl) (λ_=>rfl) (λ_=>rfl) (λ_=>rfl) (λ_=>rfl) (λn=>absurd rfl n);let y3:=y2.wM (i:=i) (k:=5) hi () { y.x.D i with ah:=(y.x.D i).ah++[j] } rfl hk;have n3:Nx 0 y y3:=⟨I.cont (y':=y3) hi (o:=(y.C.c i).inc true j) rfl rfl (by rw[s9 _ _ _ c'];show(λk=>if k=i then { y.x.D i with ah:=(y.x.D i).ah++[j] } else y.x.D k)=_;rw[D];rfl) (by rw[s9 _ _ _ c'];exact⟨u5.1,sX _ u5.2 j hj c'⟩) (λj a h=>(l2.ad j a h).1) I.bx,((Lf.refl y).go z2 l2).wM (i:=i) (k:=5) hi () { y.x.D i with ah:=(y.x.D i).ah++[j] } rfl hk,rfl,PR,λj a h=>(l2.ad j a h).1⟩
   refine⟨rU (lst (k:=5) ()),BG (lst (k:=5) ()) ln ?_⟩;refine Eq.mp (aj (Q (.bool true)) ?_) (hq y3 n3);show upd y2.z.P (y.x.r i 5) (.list (0,0) (fQ ((y.x.D i).ah++[j])))=upd y2.z.P (y.x.r i 5) (.list (0,0) (fQ (y.x.D i).ah++[.str (fC j) 0]));rw[<-nv];rfl
theorem zY(y:Y w BX RD)(I:Inv y)(hb:y.x.bx.2<2^29)(hi:i∈y.x.ids)(hu:i=12\/i=13\/i=14){t:Va}(hq:∀ y',Nx 2 y y'->Q (.bool true) y'.z.P):Calls (m+7) 1134 [.ref BX,.ref w.W,.ref RD,.str (fC i) 0,t] y.z.P X Q:=by
 refine aB 96 rfl rfl rfl ⟨bl,λe1 he1=>draw (m:=m+5) y I (iz hb ()) ["M","N"] rfl () rfl he1 λd1 s y1 hs n1 f1 h1 g1=>cB f1 h1.1 h1.2 g1 (xy (m:=m+5) y1 n1.I (Qn n1.bx hb ()) (n:=2) () λd2 a0 a1 y2 n2=>⟨bl,λe he=>nR (aA ..) ⟨rfl,?_⟩⟩)⟩;obtain⟨j,hj,rfl⟩:∃ j,j∈([15,16]:List Nat)/\s=fC j:=by
  rcases ku hs with h|h
  ·exact⟨15,(),h⟩
  ·exact⟨16,(),cu h⟩
 let y3:=y2.go (y2.z.new e (.tup [.str (fC j) 0,.int d2 0]) he) ((Le.refl y2.z).new _ he);have n3:Nx 2 y y3:=(n1.trans n2).go _ _;have hi3:i∈y3.x.ids:=by rw[n3.ids];exact hi
 have iu:=I.O.ids i hi
 have hj3:j∈y3.x.ids:=by
  rcases ku hj with h|h
  ·rw[h];exact n3.I.O.b.2.1
  ·rw[cu h];exact n3.I.O.b.2.2
 have ju:=n3.I.O.ids j hj3;have ri:=y3.row hi3 (k:=0) ();have rj:=y3.row hj3 (k:=0) ();by_cases hd:d2=0
 ·subst hd
  refine(λq=>aO (v:=.ref (y3.x.r i 0)) y3.L.rows (bC iu n3.I.O.ids hi3) λq=>aO (v:=.ref (y3.x.th i)) ri rfl λq=>aO (v:=.ref (y3.x.r j 0)) y3.L.rows (bC ju n3.I.O.ids hj3) λq=>aO (v:=.ref (y3.x.th j)) rj rfl ⟨bl,λf hf=>?_⟩);let z4:=y3.z.new f (.list (0,0) [.ref (y3.x.th j)]) hf;exact qK (m:=m) z4 (y3.L.th i hi3) hu (y3.L.th j hj3) hj (aA ..) (y3.z.un hf) λz5 l5 q=>vd (m:=m+6) y3 n3.I hi3 hu hj false z5 (((Le.refl y3.z).new _ hf).trans l5) λy' n=>hq y' (n3.trans n)
 ·have hd1:d2=1:=(Vh a0 a1).resolve_left hd
  subst hd1;refine(λq=>aO (v:=.ref (y3.x.r i 0)) y3.L.rows (bC iu n3.I.O.ids hi3) λq=>aO (v:=.ref (y3.x.th i)) ri rfl λq=>aO (v:=.ref (y3.x.r j 0)) y3.L.rows (bC ju n3.I.O.ids hj3) λq=>aO (v:=.ref (y3.x.th j)) rj rfl ⟨bl,λf hf=>?_⟩);let z4:=y3.z.new f (.list (0,0) [.ref (y3.x.th j)]) hf;exact qL (m:=m) z4 (y3.L.th i hi3) hu (y3.L.th j hj3) hj (aA ..) (y3.z.un hf) λz5 l5 q=>vd (m:=m+6) y3 n3.I hi3 hu hj true z5 (((Le.refl y3.z).new _ hf).trans l5) λy' n=>hq y' (n3.trans n)
end
theorem I6(k:Nat):∀(C:Cont) (i j:Nat),(∃ o,cU i=some o)->gU j=none->(cV k C i).ex j=C.ex j:=by
 induction k with
 | zero=>exactλy y y y y=>rfl
 | succ k ih=>
  intro C i j ⟨o,ho⟩ hj;rw[iO];by_cases l:C.lk i=true
  ·rw[ai l]
  ·rw[aa l,ho]
   have n:j≠o:=λq=>by rw[q,(jP.of ho).ao] at hj;cases hj
   refine(aa n).trans ?_;cases q:par i with
   | none=>rfl
   | some p=>exact ih C p j ((jP.of ho).up p q) hj
theorem AY(k:Nat):∀(C:Cont) (i:Nat),r9 C->(∃ o,cU i=some o)->r9 (cV k C i):=by
 induction k with
 | zero=>exactλy y L y=>L
 | succ k ih=>
  intro C i L ⟨o,ho⟩ j hj;rw[iO] at hj;by_cases l:C.lk i=true
  ·rw[ai l] at hj;exact L j hj
  ·rw[aa l] at hj
   by_cases q:j=i
   ·rw[q,ho];rfl
   ·have hj:=(aa q).symm.trans hj
    cases r:par i with
    | none=>rw[r] at hj;exact L j hj
    | some p=>rw[r] at hj;exact ih C p L ((jP.of ho).up p r) j hj
theorem oX(k:Nat)(C:Cont)(i:Nat)(h:rk i<k):(cV k C i).lk i=true:=by
 cases k with
 | zero=>exact absurd h (j0 _)
 | succ k=>
  rw[iO];by_cases l:C.lk i=true
  ·rw[ai l];exact l
  ·rw[aa l];exact ai rfl
def Gn(C:Cont):Prop:=∀ i p,par i=some p->(cU p).isSome=true->C.lk i=true->C.lk p=true
theorem AZ(k:Nat):∀(C:Cont) (i:Nat),rk i<k->Gn C->(∃ o,cU i=some o)->Gn (cV k C i):=by
 induction k with
 | zero=>exactλy y h=>absurd h (j0 _)
 | succ k ih=>
  intro C i hk U ⟨o,ho⟩ j p hp hs hj;rw[iO] at hj ⊢;by_cases l:C.lk i=true
  ·rw[ai l] at hj ⊢;exact U j p hp hs hj
  ·rw[aa l] at hj ⊢
   by_cases pi:p=i
   ·exact ai pi
   refine(aa pi).trans ?_;by_cases q:j=i
   ·subst q
    rw[hp];exact oX k C p (gr (iH hp).1 (jq hk))
   ·have hj:=(aa q).symm.trans hj
    cases r:par i with
    | none=>rw[r] at hj;exact U j p hp hs hj
    | some p'=>rw[r] at hj;exact ih C p' (gr (iH r).1 (jq hk)) U ((jP.of ho).up p' r) j p hp hs hj
theorem Gz{x:Str}{t:Int}{s:Str}:∀ mt:List (Str × Ent),oK (cQ x (some (t,s)) mt)=cQ x t (oK mt):=by
 intro rr;induction rr with
 | nil=>exact rfl
 | cons q mt ih=>
  show oK (if q.1=x then _ else _)=if q.1=x then _ else _
  by_cases e:q.1=x
  ·rw[ai e,ai e];rfl
  ·rw[aa e,aa e]
   show _::oK (cQ x (some (t,s)) mt)=_;rw[ih];rfl
section
variable{m:Nat}{X:XP}{Q:VQ}{j:Nat}
theorem HO{l:List (Str × Int)}{t:Int}(nd:(l.map (·.1)).Nodup):cT x (.int t 0) (JV l)=JV (cQ x t l):=qo (g:=λq=>.int q.2 0) (g':=λq=>.int q.2 0) nd rfl λj j j=>rfl
theorem HN{l:List (Str × Int)}(h:l.length<=6):(JV l).length<big:=k6 (fu (gi (ef ..)) h) ()
theorem Inv.own{y y':Y w BX RD}(I:Inv y)(hi:i∈y.x.ids){o:Nat}(ho:cU i=some o){t:Int}(hC:y'.C=(cV 8 y.C i).setM o (cQ x (some (t,("public":Str))) (y.C.c o).mt))(hids:y'.x.ids=y.x.ids)(hD:y'.x.D=λj=>if j=i then { y.x.D i with al:=cQ x t (y.x.D i).al } else y.x.D j)(hA:∀ j a,y.z.A.ad j=some a->y'.z.A.ad j=some a)(hb:0<=y'.x.bx.2):Inv y':=by
 have iu:=I.O.ids i hi;have ec:=tN 8 y.C i I.V ⟨o,ho⟩;have no:=Ct iu ho;have nu:∀{j},j∈pn->j≠o:=λhj q=>Ct hj ho q.symm;have cj:∀{j},j≠o->y'.C.c j=y.C.c j:=λn=>by rw[hC];exact(dG n).trans (congrFun ec _)
 have co:y'.C.c o={ y.C.c o with mt:=cQ x (some (t,("public":Str))) (y.C.c o).mt }:=by rw[hC];exact fX.trans (by rw[ec])
 have lk:y'.C.lk=(cV 8 y.C i).lk:=by rw[hC];rfl
 have ex:y'.C.ex=(cV 8 y.C i).ex:=by rw[hC];rfl
 have oo:∀{j o'},cU j=some o'->j≠i->o'≠o:=λh n q=>n (by have h1:=(jP.of h).ao;rw[q,(jP.of ho).ao] at h1;exact(kr h1).symm);refine⟨⟨by rw[hids];exact I.O.ids,by rw[hids];exact I.O.b,λj=>?_⟩,λj hj=>?_,λj o' h l=>?_,λj l=>AY 8 y.C i I.L ⟨o,ho⟩ j (by rwa [lk] at l),⟨I.b.1.imp λc h=>hA 1 c h,I.b.2.imp λc h=>hA 3 c h⟩,λj o' h q hq=>?_,λj p h1 h2 h3=>by rw[lk] at h3 ⊢;exact AZ 8 y.C i (qs i) I.lk ⟨o,ho⟩ j p h1 h2 h3,λh=>?_,hb⟩
 ·rw[hD];dsimp only
  by_cases q:j=i
  ·rw[ai q];exact I.O.ls i
  ·rw[aa q];exact I.O.ls j
 ·rw[hids] at hj
  have ju:=I.O.ids j hj;rw[hD];dsimp only;unfold rowOf;rw[cj (nu ju)];by_cases q:j=i
  ·subst q
   rw[ai rfl,I.D j hj];show(⟨_,_,_,_,cQ x t (sR y.C j)⟩:iT)=_;have e:sR y'.C j=cQ x t (sR y.C j):=by unfold sR;rw[ho];dsimp only;rw[co];exact Gz _
   rw[e];rfl
  ·rw[aa q,I.D j hj]
   have e:sR y'.C j=sR y.C j:=by
    unfold sR;cases r:cU j with
    | none=>rfl
    | some o'=>dsimp only;rw[cj (oo r q)]
   rw[e];rfl
 ·rw[lk] at l
  have n:j≠i:=λq=>by rw[q,oX 8 y.C i (qs i)] at l;cases l
  have V:=qZ 8 y.C i I.V ⟨o,ho⟩ j o' h l;rw[ex,cj (oo h n)];exact⟨V.1,by rw[<-congrFun ec o'];exact V.2⟩
 ·by_cases q':j=i
  ·subst q'
   cases ho.symm.trans h;rw[co] at hq;rcases nA (y.z.K.wf.nd o).1 hq with h|h
   ·exact⟨t,by rw[h]⟩
   ·exact I.al j o ho q h.1
  ·rw[cj (oo h q')] at hq;exact I.al j o' h q hq
 ·rw[hids] at h
  have d:=I.Ho h;exact⟨NB (by rw[ex];exact I6 8 y.C i 14 ⟨o,ho⟩ rfl) d.1,(cj (nu ⋯)).trans d.2⟩
end
section
variable{m:Nat}{X:XP}{Q:VQ}{j:Nat}
theorem RL{a:Ad}{r:Nat->Ad}{tp:Str->Ad}{d:iT}{ct:List (Str × Int)}:∀ k',k'<6->k'≠3->cG a r tp { d with ct:=ct } i k'=cG a r tp d i k'
 | 0,_,_=>rfl
 | 1,_,_=>rfl
 | 2,_,_=>rfl
 | 3,_,n=>absurd rfl n
 | 4,_,_=>rfl
 | _+5,_,_=>rfl
theorem row2{a:Ad}{r:Nat->Ad}{tp:Str->Ad}{d:iT}{al:List (Str × Int)}:∀ k',k'<6->k'≠2->cG a r tp { d with al:=al } i k'=cG a r tp d i k'
 | 0,_,_=>rfl
 | 1,_,_=>rfl
 | 2,_,n=>absurd rfl n
 | 3,_,_=>rfl
 | 4,_,_=>rfl
 | _+5,_,_=>rfl
theorem BL(y:Y w BX RD)(I:Inv y)(hb:y.x.bx.2<2^29)(hi:i∈y.x.ids)(hu:i=12\/i=13\/i=14){t:Int}(hq:∀ y',Nx 2 y y'->Q (.bool true) y'.z.P):Calls (m+17) 1141 [.ref BX,.ref w.W,.ref RD,.str (fC i) 0,.int t 0] y.z.P X Q:=by
 refine aB 97 rfl rfl rfl ⟨bl,λe1 he1=>draw (m:=m+15) y I (by lia) ["K","L"] rfl () rfl he1 λd1 s y1 hs n1 f1 h1 g1=>cB f1 h1.1 h1.2 g1 (xy (m:=m+15) y1 n1.I (by have:=n1.bx;lia) (n:=2) () λd2 a0 a1 y2 n2=>⟨bl,λe he=>nR (aA ..) ⟨rfl,?_⟩⟩)⟩
 have hx:KL s:=by
  rcases ku hs with h|h
  ·exact .inl h
  ·exact .inr (cu h)
 let y3:=y2.go (y2.z.new e (.tup [.str s 0,.int d2 0]) he) ((Le.refl y2.z).new _ he);have n3:Nx 2 y y3:=(n1.trans n2).go _ _;have I3:=n3.I;have hi3:i∈y3.x.ids:=by rw[n3.ids];exact hi
 have iu:=I.O.ids i hi;have ri:=y3.row hi3 (k:=0) ();have D:=I3.D i hi3;have th:=y3.L.th i hi3;by_cases hd:d2=0
 ·subst hd
  refine(λq=>aO (v:=.ref (y3.x.r i 0)) y3.L.rows (bC iu I3.O.ids hi3) λq=>aO (v:=.ref (y3.x.th i)) ri rfl ⟨bl,λf hf=>?_⟩);let z4:=y3.z.new f (.list (0,0) [.str s 0,.int t 0]) hf;refine lF (m:=m+12) z4 th hu hx (aA ..) (y3.z.un hf) λz5 l5 q=>?_;have l35:Le y3.z z5:=((Le.refl y3.z).new _ hf).trans l5;let y5:=y3.go z5 l35;have ct6:=y3.z.K.wf.Sn i
  refineλq=>aO (v:=.ref (y3.x.r i 0)) y5.L.rows (bC iu I3.O.ids hi3) λq=>aO (v:=.ref (y3.x.r i 3)) (y5.row (i:=i) hi3 (k:=0) ()) rfl (cW (y5.row (i:=i) hi3 (k:=3) ()) (HN (by show(y3.x.D i).ct.length<=6;rw[D];exact ct6)) ?_)
  let y6:=y5.wM (i:=i) (k:=3) hi3 () { y3.x.D i with ct:=cQ s t (y3.x.D i).ct } rfl RL;have u5:=y3.z.K.wf.u5 i (by lia);have n6:Nx 2 y y6:=⟨I3.cont (y':=y6) hi3 (o:={ y3.C.c i with ct:=cQ s t (y3.C.c i).ct }) rfl rfl (by show(λk=>if k=i then { y3.x.D i with ct:=cQ s t (y3.x.D i).ct } else y3.x.D k)=_;rw[D];rfl) u5 (λj a h=>(l35.ad j a h).1) I3.bx,(n3.f.go z5 l35).wM (i:=i) (k:=3) hi3 () { y3.x.D i with ct:=cQ s t (y3.x.D i).ct } rfl RL,n3.ids,n3.bx,λj a h=>(l35.ad j a (n3.A j a h)).1⟩
  refine Eq.mp (aj (Q (.bool true)) ?_) (hq y6 n6);show upd z5.P (y3.x.r i 3) (.dict (0,0) (JV (cQ s t (y3.x.D i).ct)))=upd z5.P (y3.x.r i 3) (.dict (0,0) (cT s (.int t 0) (JV (y3.x.D i).ct)));rw[HO (by rw[D];exact(y3.z.K.wf.nc i).1)]
 ·have hd1:d2=1:=by lia
  subst hd1;obtain⟨o,ho,hoi⟩:∃ o,cU i=some o/\¬ (o<12\/15<o/\o<19):=by rcases hu with rfl|rfl|rfl<;>exact⟨_,rfl,()⟩
  obtain⟨c3,h3⟩:=I3.b.2;refine(λq=>aO (v:=.ref (y3.x.r i 0)) y3.L.rows (bC iu I3.O.ids hi3) λq=>aO (v:=.ref (y3.x.th i)) ri rfl (pQ (m:=m+1) 8 i y3.z (qs i) ho th h3 I3.V I3.L λz4 b l4 hb4 q=>?_));have l34:Le y3.z z4:=l4;refine sV (m:=m+14) (Q:=λv P'=>Calls (m+16) 551 [.ref w.W,.ref b,v] P' X λq P'=>wpS (m+16) (fF 13) (.seq (.fD (.prim .item (.cons (.prim .item (.cons (.loc 2) (.cons (.loc 3) .nil))) (.cons (.con (.str "alone" 0)) .nil))) (.loc 5) (.loc 4)) .skip) (some (.ref BX)::some (.ref w.W)::some (.ref RD)::some (.str (fC i) 0)::some (.int t 0)::some (.str s 0)::some (.int 1 0)::some (.ref b)::nN 5) P' X (λl P'=>wpS (m+16) (fF 13) (.seq (.ret (.con (.bool true))) .skip) l P' X (λq P'=>Q .none P') Q) Q) λP5 f tt p5 hf h5=>?_;let z5:=z4.pu P5 p5;have l5:Le y3.z z5:=l34.pu P5 p5;have hs5:z5.P f=some (.inst 256 (sZ (some (t,("public":Str))) ⟨s,b,tt⟩)):=h5;have nf:Nw y3.z f:=(Nw.none z4 hf).of l34;have l6:=l5.mJ hb4 hoi hx.key hs5 (z4.un hf) nf;refine zV (m:=m+14) z5 hb4 hoi hx.key hs5 (z4.un hf) ?_;let z6:=z5.mJ hb4 hoi hx.key hs5 (z4.un hf);have ec:=tN 8 y3.C i I3.V ⟨o,ho⟩;let y6:=y3.go z6 l6;have al6:(y3.x.D i).al.length<=6:=by rw[D];show(sR y3.C i).length<=6;unfold sR;rw[ho];exact fu (gi (ef ..)) (y3.z.K.wf.Iv o)
  have alnd:((y3.x.D i).al.map (·.1)).Nodup:=by rw[D];show((sR y3.C i).map (·.1)).Nodup;unfold sR;rw[ho];show((oK (y3.C.c o).mt).map (·.1)).Nodup;unfold oK;rw[ir];exact(y3.z.K.wf.nd o).1
  refineλq=>aO (v:=.ref (y3.x.r i 0)) y6.L.rows (bC iu I3.O.ids hi3) λq=>aO (v:=.ref (y3.x.r i 2)) (y6.row (i:=i) hi3 (k:=0) ()) rfl (cW (y6.row (i:=i) hi3 (k:=2) ()) (HN al6) ?_)
  let y7:=y6.wM (i:=i) (k:=2) hi3 () { y3.x.D i with al:=cQ s t (y3.x.D i).al } rfl row2;have n7:Nx 2 y y7:=⟨I3.own (y':=y7) hi3 ho (x:=s) (t:=t) (by show(cV 8 y3.C i).setM o (cQ s (some (t,("public":Str))) ((cV 8 y3.C i).c o).mt)=_;rw[ec]) rfl rfl (λj a h=>(l6.ad j a h).1) I3.bx,(n3.f.go z6 l6).wM (i:=i) (k:=2) hi3 () { y3.x.D i with al:=cQ s t (y3.x.D i).al } rfl row2,n3.ids,n3.bx,λj a h=>(l6.ad j a (n3.A j a h)).1⟩
  refine Eq.mp (aj (Q (.bool true)) ?_) (hq y7 n7);show upd z6.P (y3.x.r i 2) (.dict (0,0) (JV (cQ s t (y3.x.D i).al)))=upd z6.P (y3.x.r i 2) (.dict (0,0) (cT s (.int t 0) (JV (y3.x.D i).al)));rw[HO alnd]
end
noncomputable def Dz(ah mx behind:List Nat)(i:Nat):List Nat:=
 let found:=lU behind ah.length (ah.reverse++i::mx.reverse) []
 found++behind.filter λx=>!found.contains x
noncomputable def MU(ah mx behind:List Nat)(i:Nat):List Nat:=ah.reverse++[i]++mx.reverse.filter λx=>!ah.contains x&&!behind.contains x
noncomputable def wA(ah mx behind:List Nat)(i:Nat):List Nat:=MU ah mx behind i++behind.filter λx=>!(MU ah mx behind i).contains x
theorem SX:∀ ah∈oh,∀ mx∈oh,Dz ah mx [1,4,0] 12=wA ah mx [] 12++[1,4,0]:=⋯
theorem SY:∀ i∈([13,14]:List Nat),∀ ah'∈oh,∀ mx'∈oh,∀ ah∈oh,∀ mx∈oh,Dz ah mx (wA ah' mx' [] 12++[1,4,0]) i=wA ah mx (wA ah' mx' [] 12) i++[1,4,0]:=⋯
def JX(i:Nat):Prop:=i<12\/14<i
theorem HB{i p:Nat}(h:JX i)(hp:par i=some p):JX p:=by
 have key:∀ i,i<22->(i<12\/14<i)->∀ p∈(par i).toList,p<12\/14<p:=⋯;by_cases hi:i<22
 ·exact key i hi h p (mem_some hp)
 ·unfold par at hp
  rw[ji (Nat.le_of_not_lt hi)] at hp;cases hp
theorem AJ{C:Cont}(W:jQ C):∀ k i,JX i->jJ C k i=jJ C0 k i:=by
 intro rr;induction rr with
 | zero=>exactλq q=>rfl
 | succ k ih=>
  intro i h;show eG C _ i=eG C0 _ i;unfold eG mG;rw[(W.base i h).2.1,(W.base i h).2.2];cases e:par i with
  | none=>rfl
  | some p=>dsimp only;rw[ih p (HB h e)];rfl
theorem Dv{C:Cont}(W:jQ C):aX C 12=wA (C.c 12).ah (C.c 12).mx [] 12++[1,4,0]:=by rw[yN C 12];show Dz (C.c 12).ah (C.c 12).mx (aX C 1) 12=_;rw[show aX C 1=[1,4,0] from(AJ W 12 1 (.inl ())).trans ⋯];exact SX _ (W.u5 12 ()).2 _ (W.u5 12 ()).1
theorem KW{C:Cont}(W:jQ C){i:Nat}(hi:i∈([13,14]:List Nat)):aX C i=wA (C.c i).ah (C.c i).mx (wA (C.c 12).ah (C.c 12).mx [] 12) i++[1,4,0]:=by have hp:par i=some 12:=(by decide +kernel:∀ i∈([13,14]:List Nat),par i=some 12) i hi;have h12:12<=i:=(by decide +kernel:∀ i∈([13,14]:List Nat),12<=i) i hi;rw[yN C i,hp];show Dz (C.c i).ah (C.c i).mx (aX C 12) i=_;rw[Dv W];exact SY i hi _ (W.u5 12 ()).2 _ (W.u5 12 ()).1 _ (W.u5 i h12).2 _ (W.u5 i h12).1
theorem uW{y:Y w BX RD}(I:Inv y)(hi:i∈y.x.ids)(hu:i=12\/i=13\/i=14):aX y.C i=iK y.x.D i++[1,4,0]:=by
 have D12:=I.D 12 I.O.b.1;have Di:=I.D i hi;unfold iK;by_cases h:i=13\/i=14
 ·rw[ai h]
  show _=wA (y.x.D i).ah (y.x.D i).mx (wA (y.x.D 12).ah (y.x.D 12).mx [] 12) i++_;rw[Di,D12];exact KW y.z.K.wf (by rcases h with rfl|rfl<;>decide)
 ·rw[aa h]
  have h12:i=12:=by lia
  subst h12;show _=wA (y.x.D 12).ah (y.x.D 12).mx [] 12++_;rw[D12];exact Dv y.z.K.wf
theorem xB{C:Cont}(W:jQ C){x:Str}:∀ l:List Nat,(∀ j∈l,j<12\/15<j/\j<19)->iX C x l=none:=by
 intro rr;induction rr with
 | nil=>exactλq=>rfl
 | cons j l ih=>intro h;rw[pW];rw[W.Br j (h j (.head _))];exact ih λk hk=>h k (.tail _ hk)
theorem Hz{C:Cont}{D:Nat->iT}{x:Str}{r:List Nat}(hr:iX C x r=none):∀ l:List Nat,(∀ j∈l,(D j).mt=(C.c j).mt)->iX C x (l++r)=findD D x l:=by
 intro rr;induction rr with
 | nil=>exactλq=>hr
 | cons j l ih=>intro h;show(match (C.c j).mt.lookup x with|some d=>d|none=>iX C x (l++r))=(match (D j).mt.lookup x with|some d=>d|none=>findD D x l);rw[h j (.head _),ih λk hk=>h k (.tail _ hk)]
theorem Ao{y:Y w BX RD}(I:Inv y)(hi:i∈y.x.ids)(hu:i=12\/i=13\/i=14):aW y.C i x=findD y.x.D x (iK y.x.D i):=by unfold aW;rw[uW I hi hu];exact Hz (xB y.z.K.wf _ ()) _ λj hj=>by rw[I.D j (mw I.O hi j hj)];rfl
theorem El{C:Cont}{D:Nat->iT}{x:Str}(hi:i≠1):∀ l:List Nat,(∀ j∈l,j≠1/\(D j).ct=(C.c j).ct)->rS C x i (l++[1,4,0])=kM D x l:=by
 intro rr;induction rr with
 | nil=>intro y;show(if 1=1/\i≠1 then none else _)=none;rw[ai ⟨rfl,hi⟩]
 | cons j l ih=>intro h;show(if j=1/\i≠1 then none else match (C.c j).ct.lookup x with|some v=>some v|none=>rS C x i (l++[1,4,0]))=(match (D j).ct.lookup x with|some d=>some d|none=>kM D x l);rw[aa λq=>(h j (.head _)).1 q.1,(h j (.head _)).2,ih λk hk=>h k (.tail _ hk)]
theorem NL{y:Y w BX RD}(I:Inv y)(hi:i∈y.x.ids)(hu:i=12\/i=13\/i=14):BQ y.C i x=kM y.x.D x (iK y.x.D i):=by unfold BQ;rw[uW I hi hu];refine El (by lia) _ λj hj=>?_;have hj':=mw I.O hi j hj;exact⟨λq=>absurd (I.O.ids j hj') (by rw[q];decide +kernel),by rw[I.D j hj'];rfl⟩
theorem CV{x:Str}:∀ mt:List (Str × Ent),(∀ q∈mt,∃ t,q.2=some (t,("public":Str)))->(mt.lookup x=none/\(oK mt).lookup x=none)\/∃ t,mt.lookup x=some (some (t,("public":Str)))/\(oK mt).lookup x=some t:=by
 intro rr;induction rr with
 | nil=>exactλj=>.inl ⟨rfl,rfl⟩
 | cons yk mt ih=>
  obtain⟨k,d⟩:=yk;intro h;obtain⟨t,ht⟩:=h _ (.head _);have ht:d=some (t,("public":Str)):=ht;subst ht;show(((k,_)::mt).lookup x=none/\((k,t)::oK mt).lookup x=none)\/∃ t',((k,_)::mt).lookup x=some (some (t',("public":Str)))/\((k,t)::oK mt).lookup x=some t';rw[f6,f6];cases e:x==k with
  | true=>exact .inr ⟨t,rfl,rfl⟩
  | false=>exact ih λq hq=>h q (.tail _ hq)
theorem LA{y:Y w BX RD}(I:Inv y)(hi:i∈y.x.ids)(hu:i=12\/i=13\/i=14):aW y.C (y9 y.C i) x=(iF y.x.D x i).map λt=>(t,("public":Str)):=by
 have W:=y.z.K.wf;have fix:∀ j l,JX j->aX C0 j=l->aX y.C j=l:=λj l h e=>(AJ W 12 j h).trans e;have base:∀ l:List Nat,(∀ j∈l,j<12\/15<j/\j<19)->iX y.C x l=none:=xB W;have l19:aX y.C 19=[19,18,17,3,2,1,4,0]:=fix 19 _ (.inr ()) ⋯;have l20:aX y.C 20=[20,19,18,17,3,2,1,4,0]:=fix 20 _ (.inr ()) ⋯;have l21:aX y.C 21=[21,19,18,17,3,2,1,4,0]:=fix 21 _ (.inr ()) ⋯;have D12:(y.x.D 12).al=oK (y.C.c 19).mt:=by rw[I.D 12 I.O.b.1];rfl
 have f19:iX y.C x [19,18,17,3,2,1,4,0]=((y.x.D 12).al.lookup x).map λt=>(t,("public":Str)):=by
  rw[D12];rw[pW];rcases CV (x:=x) _ (I.al 12 19 rfl) with⟨h1,h2⟩|⟨t,h1,h2⟩
  ·rw[h1,h2];exact base _ ()
  ·rw[h1,h2];rfl
 have none12:y.C.lk 12=false->(y.x.D 12).al=[]:=λh=>by rw[D12,(I.V 12 19 rfl h).2];rfl
 have up:aW y.C (vv y.C 8 (some 12)) x=((y.x.D 12).al.lookup x).map λt=>(t,("public":Str)):=by
  show aW y.C (if y.C.lk 12=true then 19 else vv y.C 7 (some 1)) x=_;by_cases h:y.C.lk 12=true
  ·rw[ai h];unfold aW;rw[l19];exact f19
  ·rw[aa h,none12 (by simpa using h)]
   show aW y.C (if y.C.lk 1=true then 18 else if y.C.lk 0=true then 17 else 3) x=none;unfold aW;by_cases h1:y.C.lk 1=true
   ·rw[ai h1,fix 18 [18,17,3,2,1,4,0] (.inr ()) ⋯];exact base _ ()
   ·rw[aa h1]
    by_cases h0:y.C.lk 0=true
    ·rw[ai h0,fix 17 [17,3,2,1,4,0] (.inr ()) ⋯];exact base _ ()
    ·rw[aa h0,fix 3 [3,2,1,4,0] (.inl ()) ⋯];exact base _ ()
 have step:∀(i o:Nat),i=13\/i=14->i∈y.x.ids->cU i=some o->par i=some 12->aX y.C o=o::[19,18,17,3,2,1,4,0]->aW y.C (y9 y.C i) x=(iF y.x.D x i).map λt=>(t,("public":Str)):=λi o hh hi ho hp lo=>by
  have Di:(y.x.D i).al=oK (y.C.c o).mt:=by rw[I.D i hi];show sR y.C i=_;unfold sR;rw[ho]
  unfold iF y9;rw[ai hh,Di,hp,ho];by_cases h:y.C.lk i=true
  ·rw[ai h]
   show iX y.C x (aX y.C o)=_;rw[lo];show(match (y.C.c o).mt.lookup x with|some d=>d|none=>iX y.C x [19,18,17,3,2,1,4,0])=_;rcases CV (x:=x) _ (I.al i o ho) with⟨h1,h2⟩|⟨t,h1,h2⟩
   ·rw[h1,h2];exact f19
   ·rw[h1,h2];rfl
  ·rw[aa h,(I.V i o ho (by simpa using h)).2];exact up
 rcases hu with rfl|rfl|rfl
 ·have a12:iF y.x.D x 12=(y.x.D 12).al.lookup x:=by
   unfold iF;cases (y.x.D 12).al.lookup x with
   | none=>exact aa ()
   | some d=>rfl
  rw[a12];unfold y9;by_cases h:y.C.lk 12=true
  ·rw[ai h]
   show iX y.C x (aX y.C 19)=_;rw[l19];exact f19
  ·rw[aa h]
   have u:=up;rw[show vv y.C 8 (some 12)=vv y.C 7 (some 1) from aa h] at u;exact u
 ·exact step 13 20 (.inl rfl) hi rfl rfl l20
 ·exact step 14 21 (.inr rfl) hi rfl rfl l21
section
section
variable{m:Nat}{X:XP}{Q:VQ}
structure tQ(y y':Y w BX RD):Prop where
 n:Nx 0 y y'
 x:∃ g,y'.x={ y.x with g:=g }
 P:∀ b o,y.z.P b=some o->(∀ es,o≠.tab es)->y'.z.P b=some o
theorem tQ.trans{y y' y'':Y w BX RD}(a:tQ y y')(b:tQ y' y''):tQ y y'':=by refine⟨a.n.trans b.n,?_,λc o h n=>b.P c o (a.P c o h n) n⟩;obtain⟨g,e⟩:=a.x;obtain⟨g',e'⟩:=b.x;exact⟨g',by rw[e',e]⟩
theorem Inv.BE{y:Y w BX RD}(I:Inv y){t:Ad}(ht:t=1122\/t=1164){es:List (Nat × Ad)}(hes:y.z.P t=some (.tab es)){k:Nat}{c:Ad}(hk:es.lookup k=none)(hc:y.z.P c=none):Inv (y.BE ht hes hk hc):=⟨⟨I.O.ids,I.O.b,I.O.ls⟩,I.D,I.V,I.L,I.b,I.al,I.lk,I.Ho,I.bx⟩
def lP(y:Y w BX RD)(a:Ad)(k:Nat)(vs:List Va):Prop:=∃ c,y.z.P a=some (.lam k (.ref c::vs))/\y.z.P c=some (.code k)
theorem tQ.at{y y':Y w BX RD}(h:tQ y y'){a:Ad}{k:Nat}{vs:List Va}(p:lP y a k vs):lP y' a k vs:=p.imp λc q=>⟨h.P _ _ q.1 λj e=>(by cases e),h.P _ _ q.2 λj e=>(by cases e)⟩
theorem HW(k:Nat)(y:Y w BX RD)(I:Inv y){vs:List Va}(hk:dO k=1122\/dO k=1164)(hq:∀(y':Y w BX RD) a,tQ y y'->lP y' a k vs->Q (.ref a) y'.z.P):
  (match y.z.P (dO k) with
  | some (.tab es)=>(match es.lookup k with
   | some c=>y.z.P c=some (.code k)/\cE y.z.P (.lam k (.ref c::vs)) Q
   | none=>∀ c,y.z.P c=none->c≠dO k->cE (upd (upd y.z.P (dO k) (.tab (es++[(k,c)]))) c (.code k)) (.lam k (.ref c::vs)) Q)
  | _=>False):=by
 obtain⟨es,h1,h2,h3⟩:=y.L.tb _ hk;rw[h1];dsimp only;cases q:es.lookup k with
 | some c=>refine⟨(h3 k c q).1,λa ha=>?_⟩;have pu:=(Pu.refl y.z.P).new (.lam k (.ref c::vs)) ha;exact hq (y.go (y.z.new a (.lam k (.ref c::vs)) ha) ((Le.refl y.z).new _ ha)) a ⟨(Nx.refl I).go _ _,⟨y.x.g,rfl⟩,λb o h j=>pu _ _ h⟩ ⟨c,aA ..,pu _ _ (h3 k c q).1⟩
 | none=>
  refineλc hc nc a ha=>?_
  let y1:=y.BE hk h1 q hc;have pu:=(Pu.refl y1.z.P).new (.lam k (.ref c::vs)) ha;have n1:Nx 0 y y1:=⟨I.BE hk h1 q hc,(Lf.refl y).BE hk h1 q hc,rfl,by show y.x.bx.2<=_;lia,λj j h=>h⟩
  have ha':y1.z.P a=none:=ha;refine hq (y1.go (y1.z.new a (.lam k (.ref c::vs)) ha') ((Le.refl y1.z).new _ ha')) a ⟨n1.go _ _,⟨y1.x.g,rfl⟩,λb o h nt=>pu _ _ ?_⟩ ⟨c,aA ..,pu _ _ (aA ..)⟩;show upd (upd y.z.P _ _) _ _ b=_;exact(aD λe=>by rw[e,hc] at h;cases h).trans ((aD λe=>by rw[e,h1] at h;obtain rfl:=kr h;exact nt _ rfl).trans h)
theorem qG.Q2{y y':Y w BX RD}(f:Lf y y'){v:Va}:∀{o:Ent},qG y v o->qG y' v o
 | none,h=>h
 | some _,⟨e,h1,h2,h3⟩=>⟨e,h1,f.fz e _ h2 rfl h3⟩
noncomputable def Y.sq(y:Y w BX RD)(hi:i∈y.x.ids)(x:Str):Y w BX RD:=y.setM hi (sj x (y.x.D i).mt) (y.x.tp i) y.x.g (λj j h=>h) (λc t h=>y.L.un c t h) λq hq d hd=>y.L.tup i hi q (pU hq) d hd
theorem Y.NW(y:Y w BX RD)(hi:i∈y.x.ids)(x:Str):(y.sq hi x).z.P=upd y.z.P (y.x.r i 1) (.dict (0,0) (uR x (x7 (y.x.D i).mt (y.x.tp i)))):=by unfold x7;rw[Df];rfl
theorem Lf.sq{y0 y:Y w BX RD}(a:Lf y0 y)(hi:i∈y.x.ids)(x:Str):Lf y0 (y.sq hi x):=
 have R:=(y.L.row i hi 1 ()).2
 ⟨λc o p n q r=>
  have s:=a.fr c o p n q r
  ⟨(aD λz=>by rw[z,R] at s;cases s.2.2).trans s.1,s.2⟩,λc o p n q=>
  have s:=a.fz c o p n q
  ⟨(aD (gA s.2 R λz=>by cases z)).trans s.1,s.2⟩⟩
theorem Nx.sq{k:Nat}{y0 y:Y w BX RD}(a:Nx k y0 y)(hi:i∈y.x.ids)(z':Z w (y.C.setM i (sj x (y.C.c i).mt)) [])(l:Le y.z z'):Nx k y0 ((y.go z' l).sq (i:=i) hi x):=by have D:=a.I.D i hi;have u5:=y.z.K.wf.u5 i ((by decide +kernel:∀ i∈pn,12<=i) i (a.I.O.ids i hi));refine⟨a.I.cont hi (o:={ y.C.c i with mt:=sj x (y.C.c i).mt }) rfl rfl ?_ u5 (λj c h=>(l.ad j c h).1) a.I.bx,(a.f.go z' l).sq hi x,a.ids,a.bx,λj c h=>(l.ad j c (a.A j c h)).1⟩;show(λj=>if j=i then { y.x.D i with mt:=sj x (y.x.D i).mt } else y.x.D j)=_;rw[D];rfl
end
end
section
variable{m:Nat}{X:XP}{Q:VQ}{s:Str}{C:Cont}{th c:Ad}
theorem kU{z:Z w C []}{f:Ad}{o:PO}(hf:z.P f=none)(h:∀ z':Z w C [],Le z z'->Q (.str "error NameError" 0) z'.P):Raises (z.new f o hf) λe P'=>∃ z':Z w C [],P'=z'.P/\w6 z' e/\Q (.str "error NameError" 0) z'.P:=λz' q l he=>⟨z',rfl,he,h z' (((Le.refl z).new _ hf).trans l)⟩
theorem BI(z:Z w C [])(hP:z.P a=some (.lam 833000 (.ref c::[.str s 0,.ref th,.ref w.W])))(hC:z.P c=some (.code 833000))(ha:z.A.ad i=some th)(U:zK i)(hx:s∈bH)
  (hq:∀ q,(C.c i).mt.lookup s=some (some q)->∀ z':Z w (C.setM i (sj s (C.c i).mt)) [],Le z z'->Q (.str "done" 0) z'.P)
  (hX:(C.c i).mt.lookup s=none\/(C.c i).mt.lookup s=some none->∀ z':Z w C [],Le z z'->Q (.str "error NameError" 0) z'.P):
  Calls (m+38) 1087 [.ref a] z.P X Q:=fU (m:=m+37) hP (iQ (qb wd.params) hP hC ⟨bl,λf hf=>sf (m:=m) (z.new f (.list (0,0) [.str s 0]) hf) ha U hx (aA ..) (z.un hf) (λq e z' l j=>hq q e z' (((Le.refl z).new _ hf).trans l)) λe=>kU hf (hX e)⟩)
theorem GP(z:Z w C [])(hP:z.P a=some (.lam 834000 (.ref c::[.str s 0,.ref th,.ref w.W])))(hC:z.P c=some (.code 834000))(ha:z.A.ad i=some th)(U:zK i)(hx:s∈bH)
  (hq:∀ q,aW C i s=some q->∀ z':Z w (C.setM i (cQ s none (C.c i).mt)) [],Le z z'->Q (.str "done" 0) z'.P)
  (hX:aW C i s=none->∀ z':Z w C [],Le z z'->Q (.str "error NameError" 0) z'.P):
  Calls (m+38) 1087 [.ref a] z.P X Q:=fU (m:=m+37) hP (iQ (qb wd.params) hP hC ⟨bl,λf hf=>ug (m:=m) (z.new f (.list (0,0) [.str s 0]) hf) ha U hx (aA ..) (z.un hf) (λq e z' l j=>hq q e z' (((Le.refl z).new _ hf).trans l)) λe=>kU hf (hX e)⟩)
theorem GQ(z:Z w C [])(hP:z.P a=some (.lam 836000 (.ref c::[.str x 0,.str s 0,.ref th,.ref w.W])))(hC:z.P c=some (.code 836000))(ha:z.A.ad i=some th)(U:zK i)(hy:x∈bH)(hx:s∈bH)
  (hq:∀ q,aW C i s=some q->∀ z':Z w (C.setM i (cQ x (some q) (C.c i).mt)) [],Le z z'->Q (.str "done" 0) z'.P)
  (hX:aW C i s=none->∀ z':Z w C [],Le z z'->Q (.str "error NameError" 0) z'.P):
  Calls (m+38) 1087 [.ref a] z.P X Q:=fU (m:=m+37) hP (iQ (qb wd.params) hP hC ⟨bl,λf hf=>t9 (m:=m) (z.new f (.list (0,0) [.str x 0,.str s 0]) hf) ha U hy hx (aA ..) (λq e z' l j=>hq q e z' (((Le.refl z).new _ hf).trans l)) λe=>kU hf (hX e)⟩)
theorem GR(z:Z w C [])(hP:z.P a=some (.lam 837000 (.ref c::[.str s 0,.ref th,.ref w.W])))(hC:z.P c=some (.code 837000))(ha:z.A.ad i=some th)(U:zK i)(hx:s∈bH)
  (hq:∀ q,aW C i s=some q->∀ z':Z w (if q.2≠"private"\/(C.c i).mt.lookup s=none then C.setM i (cQ s (some (q.1,"private")) (C.c i).mt) else C) [],Le z z'->Q (.str "done" 0) z'.P)
  (hX:aW C i s=none->∀ z':Z w C [],Le z z'->Q (.str "error NameError" 0) z'.P):
  Calls (m+38) 1087 [.ref a] z.P X Q:=fU (m:=m+37) hP (iQ (qb wd.params) hP hC ⟨bl,λf hf=>Aa (m:=m+1) (z.new f (.list (0,0) [.str s 0]) hf) ha U hx (aA ..) (z.un hf) (λq e z' l j=>hq q e z' (((Le.refl z).new _ hf).trans l)) λe=>kU hf (hX e)⟩)
end
section
variable{m:Nat}{X:XP}{Q:VQ}{s mo:Str}
noncomputable abbrev PT:List Bool:=[false,true,false,false,false,false,false,false,false,false,true,true,true,false,false,false]
noncomputable def Vv(tp:Str->Ad)(s:Str):Op Ent->Va
 | some (some _)=>.ref (tp s)
 | _=>.none
theorem CD{tp:Str->Ad}{mt:List (Str × Ent)}{o:Op Ent}(h:mt.lookup s=o):(aR s (x7 mt tp)).getD .none=Vv tp s o:=by
 rw[rD,h];cases o with
 | none=>rfl
 | some d=>cases d<;>rfl
noncomputable def lN(y:Y w BX RD)(i:Nat)(v4:Op Va)(d:Int)(v:Va)(ea:Ad)(v9:Op Va)(mo s:Str):Lv:=(some (.ref BX)::some (.ref w.W)::some (.ref RD)::some (.str (fC i) 0)::v4::some (.int d 0)::some v::some (.ref (y.x.r i 1))::some (.ref ea)::v9::some (.str mo 0)::some (.str s 0)::some (.ref (y.x.th i))::nN 3)
theorem OM(y:Y w BX RD)(I:Inv y)(hi:i∈y.x.ids)(hu:i=12\/i=13\/i=14)(sk:s∈bH){v4:Op Va}{v:Va}{ea a0:Ad}{t:Nat × Nat}{vs:List Va}(he:y.z.P ea=some (.list t (.ref a0::vs)))(h0:lP y a0 833000 [.str s 0,.ref (y.x.th i),.ref w.W])(hq:∀ y',Nx 0 y y'->Q (.bool true) y'.z.P){N:NP}:
  wpS (m+38) PT (bV 4 eB) (lN y i v4 0 v ea none mo s) y.z.P X N Q:=by
 obtain⟨c,hP,hC⟩:=h0;have T:=y.row hi (k:=1) ();have D:=I.D i hi;have Dm:(y.x.D i).mt=(y.C.c i).mt:=by rw[D];rfl
 have bad:(y.C.c i).mt.lookup s=none\/(y.C.c i).mt.lookup s=some none->∀(z':Z w y.C []),Le y.z z'->Q (.bool true) z'.P:=λj z' l=>hq _ ((Nx.refl I).go z' l);have th:=y.L.th i hi;cases q:(y.C.c i).mt.lookup s with
 | none=>refine⟨mu T,uK T ?_⟩;rw[CD ((aj (List.lookup s) Dm).trans q)];refine⟨rfl,cB (v:=.ref a0) he () () rfl ?_⟩;exact BI (m:=m) y.z hP hC th (.of hu) sk (λq' e=>by rw[q] at e;cases e) λj z' l=>bad (.inl q) z' l
 | some d=>
  cases d with
  | none=>refine⟨mu T,uK T ?_⟩;rw[CD ((aj (List.lookup s) Dm).trans q)];refine⟨rfl,cB (v:=.ref a0) he () () rfl ?_⟩;exact BI (m:=m) y.z hP hC th (.of hu) sk (λq' e=>by rw[q] at e;cases e) λj z' l=>bad (.inr q) z' l
  | some d=>
   refine⟨mu T,uK T ?_⟩;rw[CD ((aj (List.lookup s) Dm).trans q)];refine⟨rfl,cB (v:=.ref a0) he () () rfl ?_⟩;refine BI (m:=m) y.z hP hC th (.of hu) sk (λq' e z' l=>?_) λe=>by rw[q] at e;rcases e with e|e<;>cases e
   let y1:=y.go z' l;have T1:=y1.row (i:=i) hi (k:=1) ();have tl:(x7 (y.x.D i).mt (y.x.tp i)).length<big:=by rw[Dm];exact k6 (fu (gi (ef ..)) (y.z.K.wf.Iv i)) ()
   have kg:aR s (x7 (y.x.D i).mt (y.x.tp i))=some (.ref (y.x.tp i s)):=by rw[rD,Dm,q];rfl
   refine⟨mu T1,RE T1 tl kg ?_⟩;exact Eq.mp (aj (Q (.bool true)) (Y.NW y1 hi s)) (hq _ ((Nx.refl I).sq hi z' l))
end
section
variable{m:Nat}{X:XP}{Q:VQ}{s mo:Str}
theorem ON(y:Y w BX RD)(I:Inv y)(hi:i∈y.x.ids)(hu:i=12\/i=13\/i=14)(sk:s∈bH){v4:Op Va}{v:Va}(kv:qG y v (aW y.C i s)){ea a0 a1:Ad}{t:Nat × Nat}{vs:List Va}(he:y.z.P ea=some (.list t (.ref a0::.ref a1::vs)))(h1:lP y a1 834000 [.str s 0,.ref (y.x.th i),.ref w.W])(hq:∀ y',Nx 0 y y'->Q (.bool true) y'.z.P){N:NP}:
  wpS (m+38) PT (bV 4 eB) (lN y i v4 1 v ea none mo s) y.z.P X N Q:=by
 obtain⟨c,hP,hC⟩:=h1;have D:=I.D i hi;have Dm:(y.x.D i).mt=(y.C.c i).mt:=by rw[D];rfl
 have th:=y.L.th i hi;cases q:aW y.C i s with
 | none=>rw[q] at kv;have kv:v=.none:=kv;subst kv;refine⟨rfl,cB (v:=.ref a1) he () () rfl (GP (m:=m) y.z hP hC th (.of hu) sk (λq' e=>by rw[q] at e;cases e) λj z' l=>hq _ ((Nx.refl I).go z' l))⟩
 | some d=>
  rw[q] at kv;obtain⟨e,rfl,k1,k2⟩:=kv;refine⟨rfl,cB (v:=.ref a1) he () () rfl (GP (m:=m) y.z hP hC th (.of hu) sk (λq' j z' l=>?_) λe=>by rw[q] at e;cases e)⟩;let y1:=y.go z' l;have T1:=y1.row (i:=i) hi (k:=1) ();have tl:(x7 (y.x.D i).mt (y.x.tp i)).length<big:=by rw[Dm];exact k6 (fu (gi (ef ..)) (y.z.K.wf.Iv i)) ()
  have nd:((y1.x.D i).mt.map (·.1)).Nodup:=by show((y.x.D i).mt.map (·.1)).Nodup;rw[Dm];exact(y.z.K.wf.nd i).1
  have n1:=(Nx.refl I).wL hi (d:=none) (e:=e) (x:=s) z' l y1 rfl nd (λj h=>by cases h) λh=>by cases h
  exact cW T1 tl (Eq.mp (aj (Q (.bool true)) (Y.zd y1 hi s none e nd _)) (hq _ n1))
theorem OP(y:Y w BX RD)(I:Inv y)(hi:i∈y.x.ids)(hu:i=12\/i=13\/i=14)(sk:s∈bH)(mk:mo∈bH){v4:Op Va}{v:Va}(kv:qG y v (aW y.C i s)){ea a0 a1 a2:Ad}{t:Nat × Nat}{vs:List Va}(he:y.z.P ea=some (.list t (.ref a0::.ref a1::.ref a2::vs)))(h1:lP y a2 836000 [.str mo 0,.str s 0,.ref (y.x.th i),.ref w.W])(hq:∀ y',Nx 0 y y'->Q (.bool true) y'.z.P){N:NP}:
  wpS (m+38) PT (bV 4 eB) (lN y i v4 2 v ea none mo s) y.z.P X N Q:=by
 obtain⟨c,hP,hC⟩:=h1;have D:=I.D i hi;have Dm:(y.x.D i).mt=(y.C.c i).mt:=by rw[D];rfl
 have th:=y.L.th i hi;cases q:aW y.C i s with
 | none=>rw[q] at kv;have kv:v=.none:=kv;subst kv;refine⟨rfl,cB (v:=.ref a2) he () () rfl (GQ (m:=m) y.z hP hC th (.of hu) mk sk (λq' e=>by rw[q] at e;cases e) λj z' l=>hq _ ((Nx.refl I).go z' l))⟩
 | some d=>
  rw[q] at kv;obtain⟨e,rfl,k1,k2⟩:=kv;refine⟨rfl,cB (v:=.ref a2) he () () rfl (GQ (m:=m) y.z hP hC th (.of hu) mk sk (λq' e' z' l=>?_) λe=>by rw[q] at e;cases e)⟩;have e':d=q':=kr (q.symm.trans e');subst e';let y1:=y.go z' l;have T1:=y1.row (i:=i) hi (k:=1) ();have tl:(x7 (y.x.D i).mt (y.x.tp i)).length<big:=by rw[Dm];exact k6 (fu (gi (ef ..)) (y.z.K.wf.Iv i)) ()
  have nd:((y1.x.D i).mt.map (·.1)).Nodup:=by show((y.x.D i).mt.map (·.1)).Nodup;rw[Dm];exact(y.z.K.wf.nd i).1
  have f1:=((Lf.refl y).go z' l).fz e _ k1 rfl k2;have hh:∀ dd,some d=some dd->y1.z.P e=some (.tup [.int dd.1 0,.str dd.2 0])/\y1.z.h e=none/\(y1.x.g e=none\/y1.x.g e=some (9,99)):=λdd h=>by obtain rfl:=kr h;exact⟨f1.1,(y1.L.un _ _ f1.2).1,.inr f1.2⟩
  have n1:=(Nx.refl I).wL hi (d:=some d) (e:=e) (x:=mo) z' l y1 rfl nd hh λj o j j j g=>by rw[k2] at g;cases g
  exact cW T1 tl (Eq.mp (aj (Q (.bool true)) (Y.zd y1 hi mo (some d) e nd hh)) (hq _ n1))
end
section
variable{m:Nat}{X:XP}{Q:VQ}{s mo:Str}
theorem OQ(y:Y w BX RD)(I:Inv y)(hi:i∈y.x.ids)(hu:i=12\/i=13\/i=14)(sk:s∈bH){v4:Op Va}{v:Va}(kv:qG y v (aW y.C i s)){ea a0 a1 a2 a3:Ad}{t:Nat × Nat}{vs:List Va}(he:y.z.P ea=some (.list t (.ref a0::.ref a1::.ref a2::.ref a3::vs)))(h1:lP y a3 837000 [.str s 0,.ref (y.x.th i),.ref w.W])(hq:∀ y',Nx 0 y y'->Q (.bool true) y'.z.P){N:NP}:
  wpS (m+38) PT (bV 4 eB) (lN y i v4 3 v ea none mo s) y.z.P X N Q:=by
 obtain⟨c,hP,hC⟩:=h1;have D:=I.D i hi;have Dm:(y.x.D i).mt=(y.C.c i).mt:=by rw[D];rfl
 have th:=y.L.th i hi;cases q:aW y.C i s with
 | none=>rw[q] at kv;have kv:v=.none:=kv;subst kv;refine⟨rfl,cB (v:=.ref a3) he () () rfl (GR (m:=m) y.z hP hC th (.of hu) sk (λq' e=>by rw[q] at e;cases e) λj z' l=>hq _ ((Nx.refl I).go z' l))⟩
 | some d=>
  rw[q] at kv;obtain⟨e,rfl,k1,k2⟩:=kv;refine⟨rfl,cB (v:=.ref a3) he () () rfl (GR (m:=m) y.z hP hC th (.of hu) sk (λq' e'=>?_) λe=>by rw[q] at e;cases e)⟩;have e':d=q':=kr (q.symm.trans e');subst e';have tl:(x7 (y.x.D i).mt (y.x.tp i)).length<big:=by rw[Dm];exact k6 (fu (gi (ef ..)) (y.z.K.wf.Iv i)) ()
  have hgo:∀{C':Cont} (z':Z w C' []),Le y.z z'->z'.P e=some (.tup [.int d.1 0,.str d.2 0]):=λz' l=>(((Lf.refl y).go z' l).fz e _ k1 rfl k2).1
  have upd1:∀(z':Z w (y.C.setM i (cQ s (some (d.1,"private")) (y.C.c i).mt)) []) (l:Le y.z z') g (hg:z'.P g=none),Q (.bool true) (upd (upd z'.P g (.tup [.int d.1 0,.str "private" 0])) (y.x.r i 1) (.dict (0,0) (cT s (.ref g) (x7 (y.x.D i).mt (y.x.tp i))))):=λz' l g hg=>by
   let z6:=z'.new g (.tup [.int d.1 0,.str "private" 0]) hg;have l6:Le y.z z6:=l.new _ hg;let y6:=y.go z6 l6;have nd:((y6.x.D i).mt.map (·.1)).Nodup:=by show((y.x.D i).mt.map (·.1)).Nodup;rw[Dm];exact(y.z.K.wf.nd i).1
   have g6:y6.x.g g=none:=(y.go z' l).w5 hg;have hh:∀ dd,some (d.1,("private":Str))=some dd->y6.z.P g=some (.tup [.int dd.1 0,.str dd.2 0])/\y6.z.h g=none/\(y6.x.g g=none\/y6.x.g g=some (9,99)):=λdd h=>by obtain rfl:=kr h;exact⟨aA ..,z'.un hg,.inl g6⟩
   have n1:=(Nx.refl I).wL hi (d:=some (d.1,"private")) (e:=g) (x:=s) z6 l6 y6 rfl nd hh λj o p n q r=>by have:=((Lf.refl y).go z' l).fr g o p n q r;rw[show(y.go z' l).z.P g=none from hg] at this;cases this.1
   exact Eq.mp (aj (Q (.bool true)) (Y.zd y6 hi s (some (d.1,"private")) g nd hh)) (hq _ n1)
  have rowN:∀{C':Cont} (z':Z w C' []) (l:Le y.z z') g (hg:z'.P g=none),upd z'.P g (.tup [.int d.1 0,.str "private" 0]) (y.x.r i 1)=some (.dict (0,0) (x7 (y.x.D i).mt (y.x.tp i))):=λz' l g hg=>aI ((y.go z' l).row (i:=i) hi (k:=1) ()) hg;have rowO:∀{C':Cont} (z':Z w C' []) (l:Le y.z z'),z'.P (y.x.r i 1)=some (.dict (0,0) (x7 (y.x.D i).mt (y.x.tp i))):=λz' l=>(y.go z' l).row (i:=i) hi (k:=1) ();have kg:(aR s (x7 (y.x.D i).mt (y.x.tp i))).isSome=((y.C.c i).mt.lookup s).isSome:=by rw[rD,Dm];cases (y.C.c i).mt.lookup s<;>rfl
  by_cases c2:d.2="private"
  ·by_cases cl:(y.C.c i).mt.lookup s=none
   ·rw[ai (.inr cl)]
    intro z' l;refine oj (v:=.str d.2 0) (hgo z' l) () () rfl ?_;refine(bf (c:=!decide (d.2="private")) (by rw[au c2];rfl) (λj=>bW (b:=true) (by rw[inD (dF (rowO z' l)),kg,cl];rfl) ?_));exact oj (v:=.int d.1 0) (hgo z' l) () () rfl ⟨bl,λg hg=>cW (rowN z' l g hg) tl (upd1 z' l g hg)⟩
   ·rw[aa λh=>h.elim (λh=>h c2) cl]
    intro z' l;refine oj (v:=.str d.2 0) (hgo z' l) () () rfl ?_;refine(bf (c:=!decide (d.2="private")) (by rw[au c2];rfl) (λj=>bW (b:=false) (by rw[inD (dF (rowO z' l)),kg,Option.isSome_iff_ne_none.mpr cl];rfl) ?_));exact hq _ ((Nx.refl I).go z' l)
  ·rw[ai (.inl c2)]
   intro z' l;refine oj (v:=.str d.2 0) (hgo z' l) () () rfl ?_;refine bt (c:=!decide (d.2="private")) (by rw[av c2];rfl) ?_;exact oj (v:=.int d.1 0) (hgo z' l) () () rfl ⟨bl,λg hg=>cW (rowN z' l g hg) tl (upd1 z' l g hg)⟩
end
section
variable{m:Nat}{X:XP}{Q:VQ}{s mo:Str}
theorem Cj(y:Y w BX RD)(I:Inv y)(hi:i∈y.x.ids)(hu:i=12\/i=13\/i=14)(sk:s∈bH)(mk:mo∈bH){d:Int}(hd:0<=d/\d<4){v4:Op Va}{v:Va}(kv:qG y v (aW y.C i s)){ea a0 a1 a2 a3:Ad}{t:Nat × Nat}(he:y.z.P ea=some (.list t [.ref a0,.ref a1,.ref a2,.ref a3]))
  (h0:lP y a0 833000 [.str s 0,.ref (y.x.th i),.ref w.W]) (h1:lP y a1 834000 [.str s 0,.ref (y.x.th i),.ref w.W]) (h2:lP y a2 836000 [.str mo 0,.str s 0,.ref (y.x.th i),.ref w.W]) (h3:lP y a3 837000 [.str s 0,.ref (y.x.th i),.ref w.W]) (hq:∀ y',Nx 0 y y'->Q (.bool true) y'.z.P) {N:NP}:
  wpS (m+38) PT (bV 4 eB) (lN y i v4 d v ea none mo s) y.z.P X N Q:=by
 obtain h|h|h|h:d=0\/d=1\/d=2\/d=3:=Vi hd.1 hd.2
 ·subst h;exact OM y I hi hu sk he h0 hq
 ·subst h;exact ON y I hi hu sk kv he h1 hq
 ·subst h;exact OP y I hi hu sk mk kv he h2 hq
 ·subst h;exact OQ y I hi hu sk kv he h3 hq
theorem E1(y:Y w BX RD)(I:Inv y)(hi:i∈y.x.ids)(hu:i=12\/i=13\/i=14)(sk:s∈bH)(mk:mo∈bH){d:Int}(hd:0<=d/\d<4){v4:Op Va}{v:Va}(kv:qG y v (findD y.x.D s (iK y.x.D i)))(hq:∀ y',Nx 0 y y'->Q (.bool true) y'.z.P){N:NP}:
  wpS (m+38) PT (bV 2 eB) (some (.ref BX)::some (.ref w.W)::some (.ref RD)::some (.str (fC i) 0)::v4::some (.int d 0)::some v::some (.ref (y.x.r i 1))::none::none::some (.str mo 0)::some (.str s 0)::some (.ref (y.x.th i))::nN 3) y.z.P X N Q:=by
 have hk:∀ k:Nat,rV k=true->dO k=1122\/dO k=1164:=λk h=>.inl (ai h);refine⟨rfl,[.str s 0,.ref (y.x.th i),.ref w.W],rfl,HW 833000 y I (hk _ rfl) λy1 a0 m1 p0=>⟨rfl,[.str s 0,.ref (y.x.th i),.ref w.W],rfl,HW 834000 y1 m1.n.I (hk _ rfl) λy2 a1 m2 p1=>⟨bl,λe1 he1=>?_⟩⟩⟩;let y3:=y2.go (y2.z.new e1 (.list (0,0) [.ref a0,.ref a1]) he1) ((Le.refl y2.z).new _ he1);have m3:tQ y2 y3:=⟨(Nx.refl m2.n.I).go _ _,⟨y2.x.g,rfl⟩,λb o h q=>(Pu.refl _).new _ he1 b o h⟩
 refine⟨rfl,[.str mo 0,.str s 0,.ref (y.x.th i),.ref w.W],rfl,HW 836000 y3 m3.n.I (hk _ rfl) λy4 a2 m4 p2=>⟨rfl,[.str s 0,.ref (y.x.th i),.ref w.W],rfl,HW 837000 y4 m4.n.I (hk _ rfl) λy5 a3 m5 p3=>⟨bl,λe2 he2=>?_⟩⟩⟩;have l1:=m5.P _ _ (m4.P _ _ (show y3.z.P e1=some (.list (0,0) [.ref a0,.ref a1]) from aA ..) λq e=>(by cases e)) λq e=>(by cases e)
 refine Gy (aI l1 he2) (aA ..) ⟨bl,bl⟩ λe3 he3=>?_;let y6:=y5.go (y5.z.new e2 (.list (0,0) [.ref a2,.ref a3]) he2) ((Le.refl y5.z).new _ he2);have he3':y6.z.P e3=none:=he3;let y7:=y6.go (y6.z.new e3 (.list (0,0) [.ref a0,.ref a1,.ref a2,.ref a3]) he3') ((Le.refl y6.z).new _ he3');have m7:tQ y5 y7:=⟨((Nx.refl m5.n.I).go (y5.z.new e2 (.list (0,0) [.ref a2,.ref a3]) he2) ((Le.refl y5.z).new _ he2)).go (y6.z.new e3 (.list (0,0) [.ref a0,.ref a1,.ref a2,.ref a3]) he3') ((Le.refl y6.z).new _ he3'),⟨y5.x.g,rfl⟩,λb o h q=>((Pu.refl _).new _ he2).new _ he3' b o h⟩
 have m27:=((m3.trans m4).trans m5).trans m7;have M:=(m1.trans m2).trans m27;obtain⟨g,eg⟩:=M.x;have hi7:i∈y7.x.ids:=by rw[eg];exact hi
 have tv:qG y7 v (aW y7.C i s):=by rw[Ao M.n.I hi7 hu];have:=kv.Q2 M.n.f;rw[eg];exact this
 have eth:y7.x.th i=y.x.th i:=by rw[eg]
 have er:y7.x.r i 1=y.x.r i 1:=by rw[eg]
 have fin:=Cj (m:=m) (X:=X) (Q:=Q) (v4:=v4) (N:=N) y7 M.n.I hi7 hu sk mk hd tv (aA ..) (eth▸(m2.trans m27).at p0) (eth▸m27.at p1) (eth▸(m5.trans m7).at p2) (eth▸m7.at p3) λy' n=>hq y' (M.n.trans n);unfold lN at fin;rw[eth,er] at fin;exact fin
theorem zZ(y:Y w BX RD)(I:Inv y)(hb:y.x.bx.2<2^29)(hi:i∈y.x.ids)(hu:i=12\/i=13\/i=14){t:Va}(hq:∀ y',Nx 3 y y'->Q (.bool true) y'.z.P):Calls (m+39) 1127 [.ref BX,.ref w.W,.ref RD,.str (fC i) 0,t] y.z.P X Q:=by
 refine fS 95 rfl rfl rfl ⟨bl,λe1 he1=>draw (m:=m+37) y I (iz hb ()) ["x","y","z"] rfl () rfl he1 λd1 s y1 hs n1 f1 h1 g1=>cB f1 h1.1 h1.2 g1 ⟨bl,λe2 he2=>draw (m:=m+37) y1 n1.I (Qn n1.bx hb ()) ["x","w"] rfl () rfl he2 λd2 mo y2 hm n2 f2 h2 g2=>cB f2 h2.1 h2.2 g2 (xy (m:=m+37) y2 n2.I (Qn (SV n1.bx n2.bx) hb ()) (n:=4) () λd3 b0 b1 y3 n3=>⟨bl,λe he=>nR (aA ..) ⟨rfl,?_⟩⟩)⟩⟩;have sk:s∈bH:=(by decide +kernel:∀ s∈(["x","y","z"]:List Str),s∈bH) s hs;have mk:mo∈bH:=(by decide +kernel:∀ s∈(["x","w"]:List Str),s∈bH) mo hm;let z4:=((y3.z.new e (.tup [.str s 0,.str mo 0,.int d3 0]) he).drop).drop;have l4:Le y3.z z4:=(((Le.refl y3.z).new _ he).drop).drop;let y4:=y3.go z4 l4;have n4:Nx 3 y y4:=((n1.trans n2).trans n3).go z4 l4;have hi4:i∈y4.x.ids:=by rw[n4.ids];exact hi
 have iu:=I.O.ids i hi;refine rQ (m:=m+35) y4 n4.I.O hi4 λz5 v l5 hv=>?_;let y5:=y4.go z5 l5;have r0:=y5.row (i:=i) hi4 (k:=0) ()
 refineλq=>aO (v:=.ref (y4.x.r i 0)) y5.L.rows (bC iu n4.I.O.ids hi4) λq=>aO (v:=.ref (y4.x.th i)) r0 rfl λq=>aO (v:=.ref (y4.x.r i 0)) y5.L.rows (bC iu n4.I.O.ids hi4) λq=>aO (v:=.ref (y4.x.r i 1)) r0 rfl ⟨bl,λf hf=>nR (aA ..) ⟨rfl,?_⟩⟩
 let z6:=(z5.new f (.tup [v,.ref (y4.x.th i),.ref (y4.x.r i 1)]) hf).drop;have l6:Le y5.z z6:=((Le.refl z5).new _ hf).drop;let y6:=y5.go z6 l6;have n6:Nx 3 y y6:=(n4.go z5 l5).go z6 l6;exact E1 (m:=m) (v4:=some t) y6 n6.I hi4 hu sk mk ⟨b0,b1⟩ (hv.Q2 ((Lf.refl y5).go z6 l6)) λy' n=>hq (y'.go y'.z.drop (Le.refl y'.z).drop) ((n6.trans n).go _ _)
end
section
structure Rd(y y':Y w BX RD):Prop where
 n:Nx 0 y y'
 x:∃ g,y'.x={ y.x with g:=g }
section
variable{m:Nat}{X:XP}{Q:VQ}{s mo:Str}{e:Ad}
theorem Rd.refl(y:Y w BX RD)(I:Inv y):Rd y y:=⟨.refl I,_,rfl⟩
theorem Rd.trans{y y' y'':Y w BX RD}(a:Rd y y')(b:Rd y' y''):Rd y y'':=by obtain⟨g,e⟩:=a.x;obtain⟨g',e'⟩:=b.x;exact⟨a.n.trans b.n,g',by rw[e',e]⟩
theorem Rd.go{y0 y:Y w BX RD}(a:Rd y0 y)(z':Z w y.C [])(l:Le y.z z'):Rd y0 (y.go z' l):=⟨a.n.go z' l,a.x⟩
theorem tQ.rd{y y':Y w BX RD}(a:tQ y y'):Rd y y':=⟨a.n,a.x⟩
noncomputable abbrev Bs:List Bool:=[true,true,false,false,false,false,false,false,false,false,true,true,false,false,false,false,false,false,false,false,false,false,false,false]
noncomputable def GC:U:=match jN with
 | .seq (.loop _ _ b) _=>b
 | _=>.skip
noncomputable def OI:U->U
 | .seq (.loop _ _ b) _=>b
 | _=>.skip
noncomputable def lQ(w:Wc)(RD:Ad)(e:Ad)(i:Nat)(rw:Ad)(v4 v5 v6 v7 v8 v9 v11:Op Va):Lv:=(some (.ref w.W)::some (.ref RD)::some (.ref e)::some (.str (fC i) 0)::v4::v5::v6::v7::v8::v9::some (.ref rw)::v11::nN 12)
theorem U1(y:Y w BX RD)(I:Inv y)(hi:i∈y.x.ids)(hu:i=12\/i=13\/i=14){v4 v5 v6 v7 v8 v9 v11:Op Va}{N:NP}(hq:∀ y',Rd y y'->N (lQ w RD e i (y.x.r i 0) v4 v5 v6 v7 v8 v9 v11) y'.z.P):
  wpS (m+1) Bs (bV 6 GC) (lQ w RD e i (y.x.r i 0) v4 v5 v6 v7 v8 v9 v11) y.z.P X N Q:=by
 have r0:=y.row hi (k:=0) ();have th:=y.L.th i hi
 have k:∀{C:Cont} {p:Nat},par i=some p->p=12->nP i=.str "B" 0->wpS (m+1) Bs (bV 6 GC) (lQ w RD e i (y.x.r i 0) v4 v5 v6 v7 v8 v9 v11) y.z.P X N Q:=λ{_ p} hp p12 hs=>by
  subst p12;have hb:=y.L.th 12 I.O.b.1
  refineλq=>aO (v:=.str "B" 0) r0 (by show some (nP i)=_;rw[hs]) ⟨rfl,λq=>aO (v:=.ref (y.x.th i)) r0 rfl ⟨bl,λf hf=>?_⟩⟩
  let z1:=y.z.new f (.list (0,0) []) hf;have l1:Le y.z z1:=(Le.refl y.z).new _ hf;let y1:=y.go z1 l1;refine tZ (m:=m) z1 th hp hb (aG (v:=.int (z1.A.num 12) 0) (z1.at_ hb nn) rfl rfl rfl λq=>aO (v:=.str "B" 0) (y1.row (i:=i) hi (k:=0) ()) (by show some (nP i)=_;rw[hs]) λq=>aO (v:=.ref (y.x.r 12 0)) y1.L.rows (bC (j:=12) ⋯ I.O.ids I.O.b.1) λq=>aO (v:=.ref (y.x.th 12)) (y1.row (i:=12) I.O.b.1 (k:=0) ()) rfl (aG (v:=.int (z1.A.num 12) 0) (z1.at_ hb nn) rfl rfl rfl ?_));exact bf (c:=!decide (z1.A.num 12=z1.A.num 12)) (by rw[au rfl];rfl) (hq y1 ((Rd.refl y I).go z1 l1))
 rcases hu with rfl|rfl|rfl
 ·exactλq=>aO (v:=.none) r0 rfl ⟨rfl,hq y (.refl y I)⟩
 ·exact k (C:=y.C) rfl rfl rfl
 ·exact k (C:=y.C) rfl rfl rfl
end
end
section
variable{m:Nat}{X:XP}{Q:VQ}{s mo:Str}{e:Ad}
theorem yf(y:Y w BX RD)(O:Bx y.x)(hi:i∈y.x.ids){o:Op Int}(ho:o=kM y.x.D x (iK y.x.D i))(hq:∀(z':Z w y.C []),Le y.z z'->Q (PX o) z'.P):Calls (m+3) 1155 [.ref RD,.str (fC i) 0,.str x 0] y.z.P X Q:=zX y O hi (ho▸hq)
theorem pM(y:Y w BX RD)(O:Bx y.x)(hi:i∈y.x.ids){o:Op Int}(ho:o=iF y.x.D x i)(hq:Q (TP o) y.z.P):Calls (m+1) 1162 [.ref RD,.str (fC i) 0,.str x 0] y.z.P X Q:=zW y O hi (ho▸hq)
theorem SR(y:Y w BX RD)(I:Inv y)(hi:i∈y.x.ids)(hu:i=12\/i=13\/i=14){o:Op Int}(ho:o=BQ y.C i s){v4 v5 v6 v7 v9:Op Va}{N:NP}(hq:∀ y' v8 v9,Rd y y'->N (lQ w RD e i (y.x.r i 0) v4 v5 v6 v7 v8 v9 (some (.str s 0))) y'.z.P):
  wpS (m+39) Bs (bV 1 (OI (bV 5 GC))) (lQ w RD e i (y.x.r i 0) v4 v5 v6 v7 (some (PX o)) v9 (some (.str s 0))) y.z.P X N Q:=by
 have r0:=y.row hi (k:=0) ();have th:=y.L.th i hi;refine aU y.z.K.W Sq.1 (by rw[Sq.2];trivial) λj=>aO (v:=.ref (y.x.th i)) r0 rfl (GS (m:=m+36) y.z I.L th (.of hu) λd hd=>ye (m:=m+19) y.z hd λz1 v s1 hv=>?_);let y1:=y.go z1 s1.le;refine yf (m:=m+36) y1 I.O hi (ho.trans (NL I hi hu)) λz2 l2=>?_;let y2:=y1.go z2 l2;have al:=LA (x:=s) I hi hu;have fin:Rd y y2:=(((Rd.refl y I).go z1 s1.le).go z2 l2)
 rcases o with _|t
 rotate_left;refine bf (c:=!decide (t=t)) (by rw[au rfl];rfl) ?_
 all_goals
  cases q:aW y.C (y9 y.C i) s with
  | none=>
   rw[q] at hv al;have hv:v=.none:=hv;subst hv
   have an:none=iF y.x.D s i:=by
    cases r:iF y.x.D s i with
    | none=>rfl
    | some t=>rw[r] at al;cases al
   exact⟨rfl,pM (m:=m+38) y2 I.O hi an (hq y2 _ _ fin)⟩
  | some d=>
   rw[q] at hv al;obtain⟨f,r,rfl,h1,h2⟩:=hv
   have an:some d.1=iF y.x.D s i:=by
    cases r:iF y.x.D s i with
    | none=>rw[r] at al;cases al
    | some t=>rw[r] at al;obtain rfl:=kr al;rfl
   exact⟨rfl,aG (v:=.int d.1 0) (l2.fr f _ h1 rfl (.inr ⟨_,h2⟩)).1 rfl rfl rfl (pM (m:=m+38) y2 I.O hi an (bf (c:=!decide (d.1=d.1)) (by rw[au rfl];rfl) (hq y2 _ _ fin)))⟩
theorem U3(y:Y w BX RD)(I:Inv y)(hi:i∈y.x.ids)(hu:i=12\/i=13\/i=14)(hx:KL s){v4 v5 v6 v7 v8 v9:Op Va}{N:NP}(hq:∀ y' v8 v9,Rd y y'->N (lQ w RD e i (y.x.r i 0) v4 v5 v6 v7 v8 v9 (some (.str s 0))) y'.z.P):
  wpS (m+39) Bs (OI (bV 5 GC)) (lQ w RD e i (y.x.r i 0) v4 v5 v6 v7 v8 v9 (some (.str s 0))) y.z.P X N Q:=by
 refine⟨rfl,[.ref (y.x.r i 0),.str s 0,.ref w.W],rfl,HW 907026 y I (.inr (aa ())) λy1 a m1 p1=>?_⟩;obtain⟨c,hP,hC⟩:=p1;obtain⟨g,eg⟩:=m1.x;have hi1:i∈y1.x.ids:=by rw[eg];exact hi
 have er:y1.x.r i 0=y.x.r i 0:=by rw[eg]
 have I1:=m1.n.I;have r1:y1.z.P (y.x.r i 0)=_:=er▸y1.row hi1 (k:=0) ();have th1:=y1.L.th i hi1;have i1:i≠1:=by lia
 have call:∀{z:Z w y1.C []} (l:Le y1.z z) {X:XP} {Q:VQ},(∀ v,BQ y1.C i s=some v->∀ z':Z w y1.C [],Le y1.z z'->Q (.int v 0) z'.P)->(BQ y1.C i s=none->Raises z X)->∀ f,z.P f=none->Calls (m+37) 733 [.ref w.W,.ref (y1.x.th i),.ref f] (upd z.P f (.list (0,0) [.str s 0])) X Q:=λ{z} l {X Q} h1 h2 f hf=>pN (m:=m) (z.new f (.list (0,0) [.str s 0]) hf) (l.ad i _ th1).1 (.of hu) hx i1 (aA ..) (λv e z' l'=>h1 v e z' ((l.new _ hf).trans l')) λe z' x l' he=>h2 e z' x (((Le.refl z).new _ hf).trans l') he;have rest:∀(z:Z w y1.C []) (l:Le y1.z z) {v9},wpS (m+39) Bs (bV 1 (OI (bV 5 GC))) (lQ w RD e i (y.x.r i 0) v4 v5 v6 v7 (some (PX (BQ y1.C i s))) v9 (some (.str s 0))) z.P X N Q:=λz l {v9}=>er▸SR (y1.go z l) (I1.go z l) hi1 hu rfl λy' v8 v9 d=>er.symm▸hq y' v8 v9 ((m1.rd.go z l).trans d);cases q:BQ y1.C i s with
 | none=>
  rw[q] at rest;refine fU (m:=m+38) (C:=y1.C) hP (iQ (qb wd.params) hP hC ?_)
  refineλj=>aO (v:=.ref (y1.x.th i)) r1 rfl ⟨bl,λf hf=>?_⟩
  refine Calls.mono (call (Le.refl _) (Q:=λj P'=>False) (X:=λee P'=>∃ z':Z w y1.C [],P'=z'.P/\w6 z' ee/\_) (λv e=>by rw[q] at e;cases e) (λj z' ee l he=>⟨z',rfl,he,?_⟩) f hf) (by lia) (λj j h=>h) λj j h=>h.elim;exact rest z' l
 | some v=>
  rw[q] at rest;refine fU (m:=m+38) (C:=y1.C) hP (iQ (qb wd.params) hP hC ?_)
  refineλj=>aO (v:=.ref (y1.x.th i)) r1 rfl ⟨bl,λf hf=>Calls.mono (call (Le.refl _) (λv e z2 l2=>?_) (λe=>by rw[q] at e;cases e) f hf) (by lia) (λj j h=>h) λj j h=>h⟩
  let y2:=y1.go z2 l2
  refineλj=>aO (v:=.ref (y1.x.th i)) (er▸y2.row (i:=i) hi1 (k:=0) ()) rfl ⟨bl,λf hf=>Calls.mono (call l2 (λv' e' z3 l3=>?_) (λe=>by rw[q] at e;cases e) f hf) (by lia) (λj j h=>h) λj j h=>h⟩
  rw[q] at e';obtain rfl:=kr e';exact rest z3 l3
end
section
variable{m:Nat}{X:XP}{Q:VQ}{s mo:Str}{e:Ad}
theorem Tz{R:Bool->Prop}{Ph:PH}{a b:Ad}{vs us:List Va}(h:Ph a=some (.tup vs))(h':Ph b=some (.tup us))(he:oO vs us=some true)(hq:R false):(match OT (Ph a) (Ph b) with
 | some b=>R b
 | none=>False):=by
 have e:OT (Ph a) (Ph b)=some false:=by rw[h,h'];show(oO vs us).map (!·)=_;rw[he];rfl
 rw[e];exact hq
theorem OR{R:Bool->Prop}{Ph:PH}{a b:Ad}{t u:Nat × Nat}{vs us:List Va}(h:Ph a=some (.list t vs))(h':Ph b=some (.list u us))(hl:vs.length=us.length)(he:oO vs us=some true)(hq:R false):(match OT (Ph a) (Ph b) with
 | some b=>R b
 | none=>False):=by
 have e:OT (Ph a) (Ph b)=some false:=by rw[h,h'];show(if vs.length=us.length then(oO vs us).map (!·) else some true)=_;rw[ai hl,he];rfl
 rw[e];exact hq
def D9(y:Y w BX RD)(f:Ad)(i:Nat):Prop:=∃ num fd,y.z.P f=some (.inst 40 (JI num (y.x.th i) fd))/\y.z.h f=none/\y.x.g f=none
theorem D9.rd{y y':Y w BX RD}{f:Ad}(h:D9 y f i)(d:Rd y y'):D9 y' f i:=by obtain⟨num,fd,h1,h2,h3⟩:=h;obtain⟨g,e⟩:=d.x;have t:=d.n.f.fr f _ h1 rfl h2 h3;exact⟨num,fd,by rw[t.1,e],t.2⟩
theorem U4(y:Y w BX RD)(I:Inv y)(hi:i∈y.x.ids)(hu:i=12\/i=13\/i=14){f:Ad}(ht:D9 y f i){v4 v6 v7 v8 v9:Op Va}{N:NP}(hq:∀ y' v6 v7,Rd y y'->N (lQ w RD e i (y.x.r i 0) v4 (some (.ref f)) v6 v7 v8 v9 (some (.str s 0))) y'.z.P):
  wpS (m+39) Bs (OI (bV 4 GC)) (lQ w RD e i (y.x.r i 0) v4 (some (.ref f)) v6 v7 v8 v9 (some (.str s 0))) y.z.P X N Q:=by
 refine rQ (m:=m+36) y I.O hi λz1 v l1 hv=>?_;let y1:=y.go z1 l1;have hi1:i∈y1.x.ids:=hi;have th1:=y1.L.th i hi1
 refineλj=>aO (v:=.ref (y.x.th i)) (y1.row (i:=i) hi1 (k:=0) ()) rfl (ye (m:=m+19) z1 th1 λz2 u s2 hu2=>yh (m:=m+38) hu2 λP3 u3 p3 hm=>?_)
 let z3:=z2.pu P3 p3;have l3:Le z1 z3:=s2.le.pu P3 p3;let y3:=y1.go z3 l3;have fl:=Ao (x:=s) I hi hu;have R3:Rd y y3:=((Rd.refl y I).go z1 l1).go z3 l3;obtain⟨num,fd,ht1,ht2,ht3⟩:=ht.rd R3;have th3:=y3.L.th i hi1;cases q:findD y.x.D s (iK y.x.D i) with
 | none=>
  rw[q] at hv fl;have hv:v=.none:=hv;subst hv;have hm:Sx P3 u3 (aW y.C i s):=hm;rw[fl] at hm;have hm:u3=.none:=hm;subst hm;refine⟨bl,λa ha=>uo (m:=m+17) (z3.new a (.list (0,0) [.str s 0]) ha) th3 (aI ht1 ha) (aA ..) λz4 s4=>⟨bl,λb hb=>?_⟩⟩;have l4:Le z3 z4:=((Le.refl z3).new _ ha).trans s4.le;let y4:=y3.go z4 l4;have R4:Rd y y4:=R3.go z4 l4;obtain⟨num',fd',hu1,hu2,hu3⟩:=ht.rd R4;refine uq (m:=m+17) (z4.new b (.list (0,0) [.str s 0,.bool true]) hb) (y4.L.th i hi1) (aI hu1 hb) (aA ..) λz5 s5=>⟨bl,λc hc=>?_⟩
  have l5:Le z4 z5:=((Le.refl z4).new _ hb).trans s5.le;refine⟨rfl,rfl,bl,λc' hc'=>?_⟩;let z6:=z5.new c (.list (0,0) [.bool (seen false (aW y.C i s)),.bool (seen true (aW y.C i s))]) hc;have l6:Le z4 (z6.new c' (.list (0,0) [.bool false,.bool false]) hc'):=(l5.new _ hc).new _ hc';refine OR (aI (aA ..) hc') (aA ..) rfl ?_ (hq _ _ _ (R4.go (z6.new c' (.list (0,0) [.bool false,.bool false]) hc') l6));show oO [.bool (seen false (aW y.C i s)),.bool (seen true (aW y.C i s))] _=_;rw[fl];rfl
 | some d=>
  rw[q] at hv fl;obtain⟨k,rfl,k1,k2⟩:=hv;have hm:Sx P3 u3 (aW y.C i s):=hm;rw[fl] at hm;obtain⟨k',rfl,k3⟩:=hm;have k1':=(((Lf.refl y1).go z3 l3).fz k _ k1 rfl k2).1;refine Tz k3 k1' (by show some (decide (d.1=d.1)&&(decide (d.2=d.2)&&true))=_;rw[au rfl,au rfl];rfl) ⟨bl,λa ha=>uo (m:=m+17) (z3.new a (.list (0,0) [.str s 0]) ha) th3 (aI ht1 ha) (aA ..) λz4 s4=>⟨bl,λb hb=>?_⟩⟩;have l4:Le z3 z4:=((Le.refl z3).new _ ha).trans s4.le;let y4:=y3.go z4 l4;have R4:Rd y y4:=R3.go z4 l4;obtain⟨num',fd',hu1,hu2,hu3⟩:=ht.rd R4;refine uq (m:=m+17) (z4.new b (.list (0,0) [.str s 0,.bool true]) hb) (y4.L.th i hi1) (aI hu1 hb) (aA ..) λz5 s5=>⟨bl,λc hc=>?_⟩
  have l5:Le z4 z5:=((Le.refl z4).new _ hb).trans s5.le;let z6:=z5.new c (.list (0,0) [.bool (seen false (aW y.C i s)),.bool (seen true (aW y.C i s))]) hc;have l6:Le z4 z6:=l5.new _ hc;have k4:=(((Lf.refl y1).go z3 l3).fz k _ k1 rfl k2)
  have k5:z6.P k=some (.tup [.int d.1 0,.str d.2 0]):=(((Lf.refl y3).go z4 l4).go z6 l6).fz k _ k4.1 rfl k4.2 |>.1
  refine⟨rfl,oj (v:=.str d.2 0) k5 () () rfl ⟨rfl,bl,λc' hc'=>?_⟩⟩;refine OR (aI (aA ..) hc') (aA ..) rfl ?_ (hq _ _ _ (R4.go (z6.new c' (.list (0,0) [.bool (decide (d.2="public")),.bool true]) hc') (l6.new _ hc')));show oO [.bool (seen false (aW y.C i s)),.bool (seen true (aW y.C i s))] _=_;rw[fl];show some ((decide (d.2="public"))==(decide (d.2="public"))&&(true&&true))=_;rw[bg];rfl
end
section
variable{m:Nat}{X:XP}{Q:VQ}{s mo:Str}{e:Ad}
theorem Ia{α:Type}{step:Va->PH->(Op Va->PH->Prop)->Prop}{guard:PH->Prop}{Ph:PH}{k:List Va->PH->Prop}(f g:α->Va)(hg:guard Ph):∀(l:List α) (acc:List Va),(∀ j∈l,∀ r:Op Va->PH->Prop,r (some (g j)) Ph->step (f j) Ph r)->k (acc++l.map g) Ph->xH step guard (l.map f) acc Ph k:=by
 intro rr;induction rr with
 | nil=>exactλacc q h=>by rw[List.map_nil,jk] at h;exact h
 | cons j l ih=>exactλacc hs h=>hs j (.head _) _ ⟨hg,ih (acc++[g j]) (λy hy=>hs y (.tail _ hy)) (by rw[i0];exact h)⟩
theorem Ht(f:Nat->Int):∀ l:List Nat,oO (l.map λj=>.int (f j) 0) (l.map λj=>.int (f j) 0)=some true:=by
 intro rr;induction rr with
 | nil=>exact rfl
 | cons j l ih=>show(Option.map (decide (f j=f j)&&·) (oO (l.map λj=>.int (f j) 0) (l.map λj=>.int (f j) 0)))=_;rw[ih,au rfl];rfl
theorem Ni{R:List Va->Prop}{Ph:PH}{a:Ad}{t:Nat × Nat}{vs:List Va}{k:Int}(h:rd Ph a=some (.list t vs))(hl:vs.length<big/\0<=k/\k<big)(hq:R vs):(match rd Ph a with
 | some (.list _ vs)=>(vs.length<big/\0<=k/\k<big)/\R vs
 | _=>False):=by rw[h];exact⟨hl,hq⟩
theorem J8(y:Y w BX RD)(I:Inv y)(hi:i∈y.x.ids)(hu:i=12\/i=13\/i=14){v4 v5 v6 v7 v8 v9 v11:Op Va}{N:NP}(hq:∀ y' a,Rd y y'->wpS (m+39) Bs (bV 3 GC) (lQ w RD e i (y.x.r i 0) (some (.ref a)) v5 v6 v7 v8 v9 v11) y'.z.P X N Q):
  wpS (m+39) Bs (bV 1 GC) (lQ w RD e i (y.x.r i 0) v4 v5 v6 v7 v8 v9 v11) y.z.P X N Q:=by
 have r0:=y.row hi (k:=0) ();have th:=y.L.th i hi;have iu:=I.O.ids i hi
 refineλq=>aO (v:=.ref (y.x.th i)) r0 rfl ⟨bl,λf hf=>?_⟩
 let z0:=y.z.new f (.list (0,0) []) hf;have l0:Le y.z z0:=(Le.refl y.z).new _ hf;refine we (m:=m+8) z0 th λz1 e1 num b fd l l1 h1 hl hx=>?_;have ln:((aX y.C i).map λj=>Value.int (y.z.A.num j) 0).length<big:=by rw[ef];exact k6 (kD y.z.K.wf 12 i) ()
 have le:z0.A.dB (aX y.C i)=(aX y.C i).map λj=>y.z.A.rf (some j):=rfl;rw[le] at hl;have ln':((aX y.C i).map λj=>y.z.A.rf (some j)).length<big:=by rw[ef];exact k6 (kD y.z.K.wf 12 i) ()
 refine aG (v:=.ref l) h1 rfl rfl rfl λq=>EN hl ln' (Ia (λj=>y.z.A.rf (some j)) (λj=>.int (y.z.A.num j) 0) (λq=>dF hl) (aX y.C i) [] (λj hj r hr=>?_) λa ha=>?_)
 ·obtain⟨b,hb⟩:=hx j hj
  have hb:y.z.A.ad j=some b:=hb;rw[aQ hb];have n:=(l0.trans l1).ad j b hb;exact aG (v:=.int (y.z.A.num j) 0) (z1.at_ n.1 nn) rfl (by show some (Value.int (z1.A.num j) 0)=_;rw[n.2]) rfl hr
 let z2:=z1.new a (.list (0,0) ([]++(aX y.C i).map λj=>.int (y.z.A.num j) 0)) ha;have l2:Le y.z z2:=(l0.trans l1).new _ ha;have ua:z2.h a=none:=z1.un ha;let y2:=y.go z2 l2;refine kJ (m:=m+37) y2 I.O hi λz3 n l3 un nw h3=>Ib h3 (by rw[cP];exact k6 (mz I.O i) ()) ?_;have a3:=(l3.fr a _ (aA ..) rfl (.inl ua)).1
 refineλq=>Ni (dF a3) ⟨ln,by lia,?_⟩ λb hb=>?_
 ·rw[cP];exact Int.ofNat_lt.mpr (k6 (mz I.O i) ())
 let z4:=z3.new b (.list (0,0) (([]++(aX y.C i).map λj=>Value.int (y.z.A.num j) 0).take (Int.toNat (fQ (iK y.x.D i)).length))) hb;have l4:Le z2 z4:=l3.new _ hb;have ub:z4.h b=none:=z3.un hb;let y4:=y2.go z4 l4;refine kJ (m:=m+37) y4 I.O hi λz5 n2 l5 un2 nw2 h5=>?_;let y5:=y4.go z5 l5
 refineλq=>EN h5 (by rw[cP];exact k6 (mz I.O i) ()) (Ia (λj=>.str (fC j) 0) (λj=>.int (y.z.A.num j) 0) (λq=>dF h5) (iK y.x.D i) [] (λj hj r hr=>?_) λc hc=>?_)
 ·have ij:j∈y5.x.ids:=mw I.O hi j hj
  have n:=(l2.trans (l4.trans l5)).ad j _ (y.L.th j ij)
  exactλq=>aO (v:=.ref (y5.x.r j 0)) y5.L.rows (bC (I.O.ids j ij) I.O.ids ij) λq=>aO (v:=.ref (y5.x.th j)) (y5.row (i:=j) ij (k:=0) ()) rfl (aG (v:=.int (y.z.A.num j) 0) (z5.at_ (y5.L.th j ij) nn) rfl (by show some (Value.int (z5.A.num j) 0)=_;rw[n.2]) rfl hr)
 have b5:=(l5.fr b _ (aA ..) rfl (.inl ub)).1;have et:(([]++(aX y.C i).map λj=>Value.int (y.z.A.num j) 0).take (Int.toNat (fQ (iK y.x.D i)).length))=(iK y.x.D i).map λj=>.int (y.z.A.num j) 0:=by rw[uW I hi hu,cP,kq,i8];exact List.take_left' (ef ..)
 rw[et] at b5;refine OR (aI b5 hc) (aA ..) rfl ?_ (hq _ a (((Rd.refl y I).go z2 l2).go (z5.new c (.list (0,0) ([]++(iK y.x.D i).map λj=>Value.int (y.z.A.num j) 0)) hc) ((l4.trans l5).new _ hc)));exact Ht y.z.A.num (iK y.x.D i)
end
section
variable{m:Nat}{X:XP}{Q:VQ}{s mo:Str}{e:Ad}
theorem Dy{body:U}{ra:Ad}{v4 v5:Op Va}{y0:Y w BX RD}{o:PO}{a:Ad}{S:Str->Prop}{N:NP}(no:o.bR=false)
  (hb:∀(y:Y w BX RD) s v6 v7 v8 v9,S s->Rd y0 y->∀ K:NP,(∀ y' v6 v7 v8 v9,Rd y y'->K (lQ w RD e i ra v4 v5 v6 v7 v8 v9 (some (.str s 0))) y'.z.P)->wpS m Bs body (lQ w RD e i ra v4 v5 v6 v7 v8 v9 (some (.str s 0))) y.z.P X K Q)
  (hN:∀ y v6 v7 v8 v9 v11,Rd y0 y->N (lQ w RD e i ra v4 v5 v6 v7 v8 v9 v11) y.z.P):∀(ts:List Str) (y:Y w BX RD) v6 v7 v8 v9 v11,(∀ s∈ts,S s)->Rd y0 y->(y.z.P a=some o/\y.z.h a=none/\y.x.g a=none)->cL (λv l P' k=>wpS m Bs body (l.set 11 (some v)) (jV Bs 11 P') X k Q) (λP'=>P' a=some o) (ts.map λs=>.str s 0) (lQ w RD e i ra v4 v5 v6 v7 v8 v9 v11) y.z.P N:=by
 intro rr;induction rr with
 | nil=>exactλy v6 v7 v8 v9 v11 q d q=>hN y v6 v7 v8 v9 v11 d
 | cons s ts ih=>exactλy v6 v7 v8 v9 q hs d h=>hb (y.go y.z.drop (Le.refl y.z).drop) s v6 v7 v8 v9 (hs s (.head _)) (d.go _ _) _ λy' v6 v7 v8 v9 d'=>
  have f:=(((Lf.refl y).go y.z.drop (Le.refl y.z).drop).trans d'.n.f).fr a o h.1 no h.2.1 h.2.2
  ⟨f.1,ih y' v6 v7 v8 v9 _ (λs hs'=>hs s (.tail _ hs')) ((d.go y.z.drop (Le.refl y.z).drop).trans d') f⟩
theorem Rd.hi{y y':Y w BX RD}(d:Rd y y'):y'.x.ids=y.x.ids:=d.n.ids
theorem Rd.r{y y':Y w BX RD}(d:Rd y y'):y'.x.r=y.x.r:=by obtain⟨g,e⟩:=d.x;rw[e]
theorem J9(y:Y w BX RD)(I:Inv y)(hi:i∈y.x.ids)(hu:i=12\/i=13\/i=14){v4 v5 v6 v7 v8 v9 v11:Op Va}{N:NP}(hq:∀ y' v5 v6 v7 v8 v9 v11,Rd y y'->N (lQ w RD e i (y.x.r i 0) v4 v5 v6 v7 v8 v9 v11) y'.z.P):
  wpS (m+39) Bs (bV 3 GC) (lQ w RD e i (y.x.r i 0) v4 v5 v6 v7 v8 v9 v11) y.z.P X N Q:=by
 have r0:=y.row hi (k:=0) ();have th:=y.L.th i hi;refine aU y.z.K.W MZ.1 (by rw[MZ.2];exact Mj w y.z.n) λj=>aO (v:=.ref (y.x.th i)) r0 rfl (Ab (m:=m+35) y.z th hu λz1 f num fd l1 A1 u nw h1=>?_);let y1:=y.go z1 l1
 have gf:y.x.g f=none:=by
  cases q:y.x.g f with
  | none=>rfl
  | some t=>obtain⟨un,o,h,n⟩:=y.L.un f t q;exact(nw o h n (.inl un)).elim
 have R1:Rd y y1:=(Rd.refl y I).go z1 l1;have t1:D9 y1 f i:=⟨num,fd,h1,u,gf⟩
 refine⟨bl,λa ha=>cO (aA ..) bl ?_⟩;let y2:=y1.go (z1.new a (.list (0,0) ((["x","y","z","w"]:List Str).map λs=>.str s 0)) ha) ((Le.refl z1).new _ ha);have R2:Rd y y2:=R1.go _ _;refine Dy (S:=λj=>True) (y0:=y2) (a:=a) rfl (λy3 s v6 v7 v8 v9 j d K hK=>?_) (λy3 v6 v7 v8 v9 v11 d=>?_) ["x","y","z","w"] y2 v6 v7 v8 v9 v11 (λj j=>trivial) (.refl y2 R2.n.I) ⟨aA ..,z1.un ha,y1.w5 ha⟩
 ·have d3:=R2.trans d
  have er:=d3.r;have t3:D9 y3 f i:=(t1.rd ((Rd.refl y1 R1.n.I).go _ _)).rd d;have:=U4 (m:=m) (X:=X) (Q:=Q) (v4:=v4) (v6:=v6) (v7:=v7) (v8:=v8) (v9:=v9) (s:=s) (e:=e) (N:=K) y3 d3.n.I (d3.hi▸hi) hu t3 λy' v6 v7 d'=>er▸hK y' v6 v7 v8 v9 d';rw[er] at this;exact this
 have d3:=R2.trans d;refine⟨bl,λb hb=>cO (aA ..) bl ?_⟩;let y4:=y3.go (y3.z.new b (.list (0,0) ((["K","L"]:List Str).map λs=>.str s 0)) hb) ((Le.refl y3.z).new _ hb);have R4:Rd y y4:=d3.go _ _;refine Dy (S:=λs=>KL s) (y0:=y4) (a:=b) rfl (λy5 s v6 v7 v8 v9 ks d K hK=>?_) (λy5 v6 v7 v8 v9 v11 d=>?_) ["K","L"] y4 v6 v7 v8 v9 v11 (λs hs=>(ku hs).elim .inl λh=>.inr (cu h)) (.refl y4 R4.n.I) ⟨aA ..,y3.z.un hb,y3.w5 hb⟩
 ·have d5:=R4.trans d
  have er:=d5.r;have:=U3 (m:=m) (X:=X) (Q:=Q) (v4:=v4) (v5:=some (.ref f)) (v6:=v6) (v7:=v7) (v8:=v8) (v9:=v9) (s:=s) (e:=e) (N:=K) y5 d5.n.I (d5.hi▸hi) hu ks λy' v8 v9 d'=>er▸hK y' v6 v7 v8 v9 d';rw[er] at this;exact this
 have d5:=R4.trans d;have er:=d5.r;have:=U1 (m:=m+38) (X:=X) (Q:=Q) (v4:=v4) (v5:=some (.ref f)) (v6:=v6) (v7:=v7) (v8:=v8) (v9:=v9) (v11:=v11) (e:=e) (N:=N) y5 d5.n.I (d5.hi▸hi) hu λy' d'=>er▸hq y' _ _ _ _ _ _ (d5.trans d');rw[er] at this;exact this
end
section
variable{m:Nat}{X:XP}{Q:VQ}{s mo:Str}{e:Ad}
noncomputable def lR(w:Wc)(RD:Ad)(e:Ad)(v3 v4 v5 v6 v7 v8 v9 v10 v11:Op Va):Lv:=(some (.ref w.W)::some (.ref RD)::some (.ref e)::v3::v4::v5::v6::v7::v8::v9::v10::v11::nN 12)
theorem KZ{t:Nat × Nat}{vs:List Va}{N:NP}:∀(ns:List Nat) (y:Y w BX RD) v3 v4 v5 v6 v7 v8 v9 v10 v11,Inv y->(∀ i∈ns,i∈y.x.ids/\(i=12\/i=13\/i=14))->(y.z.P e=some (.list t vs)/\y.z.h e=none/\y.x.g e=none)->(∀ y' v3 v4 v5 v6 v7 v8 v9 v10 v11,Nx 0 y y'->N (lR w RD e v3 v4 v5 v6 v7 v8 v9 v10 v11) y'.z.P)->cL (λv l P' k=>wpS (m+39) Bs GC (l.set 3 (some v)) (jV Bs 3 P') X k Q) (λP'=>P' e=some (.list t vs)) (fQ ns) (lR w RD e v3 v4 v5 v6 v7 v8 v9 v10 v11) y.z.P N:=by
 intro rr;induction rr with
 | nil=>exactλy v3 v4 v5 v6 v7 v8 v9 v10 v11 I q q hN=>hN y _ _ _ _ _ _ _ _ _ (.refl I)
 | cons i ns ih=>
  intro y v3 v4 v5 v6 v7 v8 v9 v10 v11 I hs h hN;obtain⟨hi,hu⟩:=hs i (.head _);let y1:=y.go y.z.drop (Le.refl y.z).drop;have R1:Rd y y1:=(Rd.refl y I).go _ _
  refineλq=>aO (v:=.ref (y.x.r i 0)) y.L.rows (bC (I.O.ids i hi) I.O.ids hi) ?_
  refine J8 (m:=m) (v4:=v4) y1 R1.n.I hi hu λy2 a d2=>?_;have er:=d2.r;have:=J9 (m:=m) (X:=X) (Q:=Q) (v4:=some (.ref a)) (v5:=v5) (v6:=v6) (v7:=v7) (v8:=v8) (v9:=v9) (v11:=v11) (e:=e) (N:=λl' P'=>P' e=some (.list t vs)/\cL (λv l P' k=>wpS (m+39) Bs GC (l.set 3 (some v)) (jV Bs 3 P') X k Q) (λP'=>P' e=some (.list t vs)) (fQ ns) l' P' N) y2 d2.n.I (d2.hi▸hi) hu λy3 v5 v6 v7 v8 v9 v11 d3=>?_
  ·rw[er] at this;exact this
  have R3:=(R1.trans d2).trans d3;have f:=R3.n.f.fr e _ h.1 rfl h.2.1 h.2.2;exact⟨f.1,ih y3 _ _ _ _ _ _ _ _ _ R3.n.I (λj hj=>R3.hi.symm▸hs j (.tail _ hj)) f λy' v3 v4 v5 v6 v7 v8 v9 v10 v11 n=>hN y' _ _ _ _ _ _ _ _ _ (R3.n.trans n)⟩
theorem jW(y:Y w BX RD)(I:Inv y){ns:List Nat}{t:Nat × Nat}(hs:∀ i∈ns,i∈y.x.ids/\(i=12\/i=13\/i=14))(hl:ns.length<9)(h:y.z.P e=some (.list t (fQ ns))/\y.z.h e=none/\y.x.g e=none)(hq:∀ y',Nx 0 y y'->Q (.bool true) y'.z.P):Calls (m+40) 1167 [.ref w.W,.ref RD,.ref e] y.z.P X Q:=fS 101 rfl rfl rfl (cO h.1 (by rw[cP];exact gy hl ()) (KZ ns y none none none none none none none none none I hs h λy' q q q q q q q q q n=>hq (y'.go y'.z.drop (Le.refl y'.z).drop) (n.go _ _)))
end
section
structure RowC(P0 P':PH)(RD r0:Ad)(R kvs:List (Str × Va))(L:List (Ad × PO)):Prop where
 pu:∀ c o,P0 c=some o->c≠RD->P' c=some o
 rd:P' RD=some (.dict (0,0) R)
 Mr:P' r0=some (.dict (0,0) kvs)
 n0:P0 r0=none
 nr:r0≠RD
 cs:∀ q∈L,P' q.1=some q.2/\P0 q.1=none/\q.1≠RD
 nd:(r0::L.map (·.1)).Nodup
section
variable{P0:PH}{RD r0 n:Ad}{R kvs':List (Str × Va)}{L:List (Ad × PO)}{o:PO}
theorem RowC.fresh(c:RowC P0 P' RD r0 R kvs L)(hn:P' n=none):P0 n=none/\n≠RD/\n≠r0/\n∉L.map (·.1):=by
 have a:n≠RD:=λe=>by rw[e,c.rd] at hn;cases hn
 refine⟨?_,a,λe=>(by rw[e,c.Mr] at hn;cases hn),λh=>?_⟩
 ·cases q:P0 n with
  | none=>rfl
  | some o=>rw[c.pu n o q a] at hn;cases hn
 ·obtain⟨q,hq,e⟩:=List.mem_map.mp h
  rw[<-e,(c.cs q hq).1] at hn;cases hn
theorem RowC.new(c:RowC P0 P' RD r0 R kvs L)(hn:P' n=none):RowC P0 (upd P' n o) RD r0 R kvs L:=⟨λa o' h x=>aI (c.pu a o' h x) hn,aI c.rd hn,aI c.Mr hn,c.n0,c.nr,λq hq=>⟨aI (c.cs q hq).1 hn,(c.cs q hq).2⟩,c.nd⟩
theorem RowC.step(c:RowC P0 P' RD r0 R kvs L)(hn:P' n=none):RowC P0 (upd (upd P' n o) r0 (.dict (0,0) kvs')) RD r0 R kvs' ((n,o)::L):=by
 have f:=c.fresh hn;have nd:=dj c.nd;have k:∀{a},a≠r0->upd (upd P' n o) r0 (.dict (0,0) kvs') a=upd P' n o a:=λh=>aD h;refine⟨λa o' h x=>(k λe=>by rw[e,c.n0] at h;cases h).trans (aI (c.pu a o' h x) hn),(k c.nr.symm).trans (aI c.rd hn),aA ..,c.n0,c.nr,λq hq=>?_,?_⟩
 ·rcases ku hq with h|h
  ·subst h;exact⟨(k f.2.2.1).trans (aA ..),f.1,f.2.1⟩
  ·have t:=c.cs q h
   exact⟨(k λe=>nd.1 (e▸jx h)).trans (aI t.1 hn),t.2⟩
 ·refine dh ⟨λh=>?_,dh ⟨f.2.2.2,nd.2⟩⟩
  rcases ku h with h|h
  ·exact f.2.2.1 h.symm
  ·exact nd.1 h
end
theorem Ov{k:Str}{v:Va}:∀{l:List (Str × Va)},aR k l=none->cT k v l=l++[(k,v)]:=by
 intro rr;induction rr with
 | nil=>exactλq=>rfl
 | cons yk l ih=>
  obtain⟨k',v'⟩:=yk;intro h;have h:(if k'=k then some v' else aR k l)=none:=h;show(if k'=k then(k',v)::l else(k',v')::cT k v l)=_;by_cases e:k'=k
  ·rw[ai e] at h;cases h
  ·rw[aa e] at h ⊢;rw[ih h];rfl
theorem HV{k:Str}{r:List (Str × Va)}:∀{l:List (Str × Va)},aR k (l++r)=match aR k l with|some v=>some v|none=>aR k r:=by
 intro rr;induction rr with
 | nil=>exact rfl
 | cons yk l ih=>
  obtain⟨k',v'⟩:=yk;show(if k'=k then some v' else aR k (l++r))=(match (if k'=k then some v' else aR k l) with|some v=>some v|none=>aR k r);by_cases e:k'=k
  ·rw[ai e,ai e]
  ·rw[aa e,aa e];exact ih
theorem IJ{j:Nat}{f:Nat->Va}(hu:j∈pn):∀{l:List Nat},(∀ y∈l,y∈pn)->j∉l->aR (fC j) (l.map λi=>(fC i,f i))=none:=by
 intro rr;induction rr with
 | nil=>exactλu u=>rfl
 | cons y l ih=>intro h hj;show(if fC y=fC j then some (f y) else aR (fC j) (l.map λi=>(fC i,f i)))=_;rw[aa λq=>hj (by rw[tK _ (h y (.head _)) _ hu q];exact .head _)];exact ih (λz hz=>h z (.tail _ hz)) λh=>hj (.tail _ h)
end
noncomputable abbrev Sm:List Bool:=(fF 14)
noncomputable def PV(a b:Ad)(pv:Va)(v1 v2 v3 v4 v5:Ad):List (Str × Va):=[("thing",.ref a),("parent",pv),("methods",.ref v1),("alone",.ref v2),("consts",.ref v3),("mixed",.ref v4),("front",.ref v5)]
section
variable{m:Nat}{X:XP}{Q:VQ}{s mo:Str}{e:Ad}
noncomputable def lZ(BX:Ad)(w:Wc)(RD:Ad)(t:Ad)(v4:Op Va)(e:Ad)(v6:Op Va):Lv:=(some (.ref BX)::some (.ref w.W)::some (.ref RD)::some (.ref t)::v4::some (.ref e)::v6::nN 7)
theorem yt{P0 P':PH}{t:Ad}{v4 v6:Op Va}{r0 rC a g:Ad}{R kvs kvC kw:List (Str × Va)}{L:List (Ad × PO)}{tt:Nat × Nat}{o:PO}{k:Str}{K:NP}(c:RowC P0 P' RD r0 R kvs L)(hC:aR "C" R=some (.ref rC))(hD:aR "D" R=some (.ref r0))(pC:P0 rC=some (.dict (0,0) kvC)/\rC≠RD)(hk:aR k kvC=some (.ref g))(pg:P0 g=some (.dict tt kw)/\g≠RD)(lw:kw.length<big)(lk:kvs.length<big)(ha:P' a=some o)(na:a≠r0)
  (hq:∀ n P'',RowC P0 P'' RD r0 R (cT k (.ref n) kvs) ((n,.dict (0,0) kw)::L)->P'' a=some o->K (lZ BX w RD t v4 e (some (.str k 0))) P''):
  wpS m Sm (OI (bV 3 fN)) (lZ BX w RD t v4 e (some (.str k 0))) P' X K Q:=
 λq=>aO (v:=.ref rC) c.rd hC λq=>aO (v:=.ref g) (c.pu _ _ pC.1 pC.2) hk (cW (c.pu _ _ pg.1 pg.2) lw λn hn=>
  have c1:=c.new (o:=.dict (0,0) kw) hn
  λq=>aO (v:=.ref r0) c1.rd hD (cW c1.Mr lk (hq n _ (c.step hn) ((aD na).trans (aI ha hn)))))
theorem C6{P0 P':PH}{t:Ad}{v4 v6:Op Va}{r0 rC a g:Ad}{R kvs kvC:List (Str × Va)}{kw:List Va}{L:List (Ad × PO)}{tt:Nat × Nat}{o:PO}{k:Str}{K:NP}(c:RowC P0 P' RD r0 R kvs L)(hC:aR "C" R=some (.ref rC))(hD:aR "D" R=some (.ref r0))(pC:P0 rC=some (.dict (0,0) kvC)/\rC≠RD)(hk:aR k kvC=some (.ref g))(pg:P0 g=some (.list tt kw)/\g≠RD)(lw:kw.length<big)(lk:kvs.length<big)(ha:P' a=some o)(na:a≠r0)
  (hq:∀ n P'',RowC P0 P'' RD r0 R (cT k (.ref n) kvs) ((n,.list (0,0) kw)::L)->P'' a=some o->K (lZ BX w RD t v4 e (some (.str k 0))) P''):
  wpS m Sm (OI (bV 4 fN)) (lZ BX w RD t v4 e (some (.str k 0))) P' X K Q:=
 λq=>aO (v:=.ref rC) c.rd hC λq=>aO (v:=.ref g) (c.pu _ _ pC.1 pC.2) hk (tE (c.pu _ _ pg.1 pg.2) lw λn hn=>
  have c1:=c.new (o:=.list (0,0) kw) hn
  λq=>aO (v:=.ref r0) c1.rd hD (cW c1.Mr lk (hq n _ (c.step hn) ((aD na).trans (aI ha hn)))))
end
section
variable{m:Nat}{X:XP}{Q:VQ}{s mo:Str}{e:Ad}
noncomputable def newR(y:Y w BX RD)(r0:Ad):List (Str × Va):=(y.x.ids.map λi=>(fC i,Value.ref (y.x.r i 0)))++[((("D":Str)),Value.ref r0)]
noncomputable def newL(y:Y w BX RD)(n1 n2 n3 n4 n5:Ad):List (Ad × PO):=[(n5,cG (y.x.th 13) (y.x.r 13) (y.x.tp 13) (y.x.D 13) 13 5),(n4,cG (y.x.th 13) (y.x.r 13) (y.x.tp 13) (y.x.D 13) 13 4),(n3,cG (y.x.th 13) (y.x.r 13) (y.x.tp 13) (y.x.D 13) 13 3),(n2,cG (y.x.th 13) (y.x.r 13) (y.x.tp 13) (y.x.D 13) 13 2),(n1,cG (y.x.th 13) (y.x.r 13) (y.x.tp 13) (y.x.D 13) 13 1)]
theorem Al(y:Y w BX RD)(hu:∀ i∈y.x.ids,i∈pn)(lM:13∈y.x.ids)(h14:14∉y.x.ids)(hn:y.x.ids.length<9)(hi:y.z.A.ad 14=some e)(lm:(y.x.D 13).mt.length<20)(la:(y.x.D 13).al.length<20)(lc:(y.x.D 13).ct.length<20)(lx:(y.x.D 13).mx.length<20)(lh:(y.x.D 13).ah.length<20){v4:Op Va}{N:NP}
  (hq:∀ P' r0 n1 n2 n3 n4 n5,RowC y.z.P P' RD r0 (newR y r0) (PV e r0 (.str "B" 0) n1 n2 n3 n4 n5) (newL y n1 n2 n3 n4 n5)->Q (.bool true) P'):
  wpS (m+17) Sm (bV 2 fN) (lZ BX w RD (y.x.th 13) v4 e none) y.z.P X N Q:=by
 have rows:=y.L.rows;have r13:=y.row lM (k:=0) ();have ne:∀{k},k<6->y.x.r 13 k≠RD:=λh=>gA (y.L.row 13 lM _ h).2 y.L.oR λq=>by have:=aj Prod.fst q;simp only at this;lia
 have gC:=bC (j:=13) (f:=λi=>.ref (y.x.r i 0)) (hu 13 lM) hu lM;have gD:=IJ (j:=14) (f:=λi=>.ref (y.x.r i 0)) ⋯ hu h14;have big1:∀{n:Nat},n<20->n<big:=λh=>gy h ();have hr:(y.x.ids.map λi=>(fC i,Value.ref (y.x.r i 0))).length<big:=by rw[ef];exact gy hn ()
 refineλu=>aO (v:=.ref (y.x.r 13 0)) rows gC λu=>aO (v:=.str "B" 0) r13 rfl (xo (m:=m+16) λP1 r nr=>cW (nr.pu _ _ rows) hr ?_)
 have z0:y.z.P (r 0)=none:=nr.fr 0 ();have n0:r 0≠RD:=λq=>by rw[q,rows] at z0;cases z0
 have kp:cT "D" (Value.ref (r 0)) (y.x.ids.map λi=>(fC i,Value.ref (y.x.r i 0)))=newR y (r 0):=Ov gD;rw[kp];have hC:aR "C" (newR y (r 0))=some (.ref (y.x.r 13 0)):=by unfold newR;rw[HV,show aR "C" (y.x.ids.map λi=>(fC i,Value.ref (y.x.r i 0)))=_ from gC]
 have hD:aR "D" (newR y (r 0))=some (.ref (r 0)):=by unfold newR;rw[HV,show aR "D" (y.x.ids.map λi=>(fC i,Value.ref (y.x.r i 0)))=_ from gD];rfl
 have c0:RowC y.z.P (upd P1 RD (.dict (0,0) (newR y (r 0)))) RD (r 0) (newR y (r 0)) (PV e (r 0) (.str "B" 0) (r 1) (r 2) (r 3) (r 4) (r 5)) []:=⟨λc o h n=>(aD n).trans (nr.pu c o h),aA ..,(aD n0).trans nr.Mr,z0,n0,λu h=>absurd h gk,dh ⟨gk,List.nodup_nil⟩⟩
 have pC:=And.intro r13 (ne (k:=0) ());have pg:∀ k (h:k<6),y.z.P (y.x.r 13 k)=some (cG (y.x.th 13) (y.x.r 13) (y.x.tp 13) (y.x.D 13) 13 k)/\y.x.r 13 k≠RD:=λk h=>⟨y.row lM h,ne h⟩
 have lmap:∀{α:Type} {f:α->Str × Va} {l:List α},l.length<20->(l.map f).length<big:=λh=>by rw[ef];exact big1 h
 have lmap2:∀{l:List Nat},l.length<20->(fQ l).length<big:=λh=>by rw[cP];exact big1 h
 refine⟨bl,λa ha=>cO (aA ..) bl ?_⟩;have c1:=c0.new (o:=.list (0,0) [.str "methods" 0,.str "alone" 0,.str "consts" 0]) ha;have na:a≠r 0:=(c0.fresh ha).2.2.1;refine yt (v6:=none) c1 hC hD pC rfl (pg 1 ()) (lmap lm) bl (aA ..) na λn1 P2 c2 a2=>⟨a2,?_⟩
 refine yt (v6:=none) c2 hC hD pC rfl (pg 2 ()) (lmap la) bl a2 na λn2 P3 c3 a3=>⟨a3,?_⟩
 refine yt (v6:=none) c3 hC hD pC rfl (pg 3 ()) (lmap lc) bl a3 na λn3 P4 c4 a4=>⟨a4,?_⟩
 refine⟨bl,λb hb=>cO (aA ..) bl ?_⟩;have c5:=c4.new (o:=.list (0,0) [.str "mixed" 0,.str "front" 0]) hb;have nb:b≠r 0:=(c4.fresh hb).2.2.1;refine C6 (v6:=none) c5 hC hD pC rfl (pg 4 ()) (lmap2 lx) bl (aA ..) nb λn4 P6 c6 a6=>⟨a6,?_⟩
 refine C6 (v6:=none) c6 hC hD pC rfl (pg 5 ()) (lmap2 lh) bl a6 nb λn5 P7 c7 a7=>⟨a7,?_⟩
 have own:∀{c o t},y.z.h c=some t->y.z.P c=some o->o.bR=false->P7 c=some o:=λ{c o t} h p _=>c7.pu c o p λq=>by rw[q,(y.L.un _ _ y.L.oR).1] at h;cases h
 let z7:Z w y.C []:=⟨P7,y.z.A,y.z.h,y.z.n,y.z.kp,y.z.K.keep λc o t h p l=>own h p l⟩
 have h13':z7.A.ad 13=some (y.x.th 13):=y.L.th 13 lM;have hi':z7.A.ad 14=some e:=hi;refine aG (v:=.int (z7.A.num 14) 0) (z7.at_ hi' nn) rfl rfl rfl (aG (v:=.int (z7.A.num 13) 0) (z7.at_ h13' nn) rfl rfl rfl (bt (c:=!decide (z7.A.num 14=z7.A.num 13)) (by rw[av λq=>absurd (y.z.K.inj 14 13 _ _ hi h13' q) ()];rfl) ⟨bl,λf hf=>wg (m:=m+16) (z7.new f (.list (0,0) []) hf) hi' rfl ⟨rfl,?_⟩⟩));exact hq _ _ n1 n2 n3 n4 n5 (c7.new hf)
end
noncomputable def qW(r0 n1 n2 n3 n4 n5:Ad):List (Nat × Nat):=[(r0,0),(n5,5),(n4,4),(n3,3),(n2,2),(n1,1)]
noncomputable def wK(l:List (Nat × Nat))(g:eO):eO:=λc=>match l.lookup c with
 | some k=>some (k,14)
 | none=>g c
section
variable{e:Ad}
noncomputable def newX(x:Lx)(e r0 n1 n2 n3 n4 n5:Ad):Lx:={ x with ids:=x.ids++[14],r:=λi k=>if i=14 then r6 r0 n1 n2 n3 n4 n5 k else x.r i k,tp:=λi=>if i=14 then x.tp 13 else x.tp i,th:=λi=>if i=14 then e else x.th i,g:=wK (qW r0 n1 n2 n3 n4 n5) x.g,D:=λi=>if i=14 then x.D 13 else x.D i }
variable(y:Y w BX RD)(lM:13∈y.x.ids)(h14:14∉y.x.ids)(hi:y.z.A.ad 14=some e){r0 n1 n2 n3 n4 n5:Ad}(rc:RowC y.z.P P' RD r0 (newR y r0) (PV e r0 (.str "B" 0) n1 n2 n3 n4 n5) (newL y n1 n2 n3 n4 n5))
include rc
theorem K7{k:Nat}(hk:k<6):(r6 r0 n1 n2 n3 n4 n5 k,k)∈qW r0 n1 n2 n3 n4 n5/\P' (r6 r0 n1 n2 n3 n4 n5 k)=some (cG e (r6 r0 n1 n2 n3 n4 n5) (y.x.tp 13) (y.x.D 13) 14 k)/\y.z.P (r6 r0 n1 n2 n3 n4 n5 k)=none:=by
 have m:∀{q},q∈newL y n1 n2 n3 n4 n5->P' q.1=some q.2/\y.z.P q.1=none:=λh=>⟨(rc.cs _ h).1,(rc.cs _ h).2.1⟩
 exact six (p:=λk=>(r6 r0 n1 n2 n3 n4 n5 k,k)∈qW r0 n1 n2 n3 n4 n5/\P' (r6 r0 n1 n2 n3 n4 n5 k)=some (cG e (r6 r0 n1 n2 n3 n4 n5) (y.x.tp 13) (y.x.D 13) 14 k)/\y.z.P (r6 r0 n1 n2 n3 n4 n5 k)=none) ⟨.head _,rc.Mr,rc.n0⟩ ⟨.tail _ (.tail _ (.tail _ (.tail _ (.tail _ (.head _))))),m (.tail _ (.tail _ (.tail _ (.tail _ (.head _)))))⟩ ⟨.tail _ (.tail _ (.tail _ (.tail _ (.head _)))),m (.tail _ (.tail _ (.tail _ (.head _))))⟩ ⟨.tail _ (.tail _ (.tail _ (.head _))),m (.tail _ (.tail _ (.head _)))⟩ ⟨.tail _ (.tail _ (.head _)),m (.tail _ (.head _))⟩ ⟨.tail _ (.head _),m (.head _)⟩ k hk
theorem M4{a k:Nat}(h:(qW r0 n1 n2 n3 n4 n5).lookup a=some k):k<6/\a=r6 r0 n1 n2 n3 n4 n5 k:=by have c:∀{p:Nat × Nat} {l:List (Nat × Nat)},(p.2<6/\p.1=r6 r0 n1 n2 n3 n4 n5 p.2)->(∀ q∈l,q.2<6/\q.1=r6 r0 n1 n2 n3 n4 n5 q.2)->∀ q∈p::l,q.2<6/\q.1=r6 r0 n1 n2 n3 n4 n5 q.2:=λh t=>List.forall_mem_cons.2 ⟨h,t⟩;exact c ⟨bl,rfl⟩ (c ⟨bl,rfl⟩ (c ⟨bl,rfl⟩ (c ⟨bl,rfl⟩ (c ⟨bl,rfl⟩ (c ⟨bl,rfl⟩ λj h=>absurd h gk))))) _ (lookup_mem h)
theorem AN{a:Ad}(h:y.z.P a≠none):wK (qW r0 n1 n2 n3 n4 n5) y.x.g a=y.x.g a:=by
 unfold wK;cases q:(qW r0 n1 n2 n3 n4 n5).lookup a with
 | none=>rfl
 | some k=>have t:=M4 y rc q;exact(h (by rw[t.2];exact(K7 y rc t.1).2.2)).elim
theorem IE{k:Nat}(hk:k<6):wK (qW r0 n1 n2 n3 n4 n5) y.x.g (r6 r0 n1 n2 n3 n4 n5 k)=some (k,14):=by unfold wK;rw[uX (l:=qW r0 n1 n2 n3 n4 n5) rc.nd (K7 y rc hk).1]
theorem As{a:Ad}{t:Tag}(h:y.x.g a=some t):wK (qW r0 n1 n2 n3 n4 n5) y.x.g a=some t:=by obtain⟨_,o,p,_⟩:=y.L.un a t h;rw[AN y rc (by rw[p];intro q;cases q),h]
theorem Cu{a:Ad}{t:Tag}{o:PO}(h:y.x.g a=some t)(n:t≠(6,99))(p:y.z.P a=some o):P' a=some o:=rc.pu a o p (gA h y.L.oR n)
end
variable{e:Ad}
noncomputable def Y.oJ(y:Y w BX RD)(lM:13∈y.x.ids)(h14:14∉y.x.ids)(hi:y.z.A.ad 14=some e){P':PH}{r0 n1 n2 n3 n4 n5:Ad}(c:RowC y.z.P P' RD r0 (newR y r0) (PV e r0 (.str "B" 0) n1 n2 n3 n4 n5) (newL y n1 n2 n3 n4 n5)):Y w BX RD:=
 ⟨y.C,⟨P',y.z.A,y.z.h,y.z.n,y.z.kp,y.z.K.keep λa o j h p j=>c.pu a o p λq=>by rw[q,(y.L.un _ _ y.L.oR).1] at h;cases h⟩,newX y.x e r0 n1 n2 n3 n4 n5,by
  have n6:∀{a b:Nat},a≠6->((a,b):Tag)≠(6,99):=λh q=>h (aj Prod.fst q);have ids:∀{i},i∈y.x.ids++[14]->(i∈y.x.ids/\i≠14)\/i=14:=λh=>(cy h).elim (λh=>.inl ⟨h,λq=>h14 (q▸h)⟩) λh=>.inr (cu h);exact⟨Cu y c y.L.oB (n6 ()) y.L.box,by
    refine c.rd.trans (aj (λl=>some (PO.dict (0,0) l)) ?_);show newR y r0=(y.x.ids++[14]).map λi=>(fC i,Value.ref (if i=14 then r6 r0 n1 n2 n3 n4 n5 0 else y.x.r i 0))
    rw[i8];refine aj (·++[((("D":Str)),Value.ref r0)]) (jy λi hi=>?_);rw[aa λq:i=14=>h14 (q▸hi)],λi h k hk=>by
    show P' (if i=14 then r6 r0 n1 n2 n3 n4 n5 k else y.x.r i k)=some (cG (if i=14 then e else y.x.th i) (λk=>if i=14 then r6 r0 n1 n2 n3 n4 n5 k else y.x.r i k) (if i=14 then y.x.tp 13 else y.x.tp i) (if i=14 then y.x.D 13 else y.x.D i) i k)/\wK (qW r0 n1 n2 n3 n4 n5) y.x.g (if i=14 then r6 r0 n1 n2 n3 n4 n5 k else y.x.r i k)=_;rcases ids h with⟨h,q⟩|q
    ·simp only[aa q]
     have R:=y.L.row i h k hk;exact⟨Cu y c R.2 (n6 (by lia)) R.1,As y c R.2⟩
    ·subst q
     exact⟨(K7 y c hk).2.1,IE y c hk⟩,λi h q hq d hd=>by
    have hq:q∈(if i=14 then y.x.D 13 else y.x.D i).mt:=hq;show P' ((if i=14 then y.x.tp 13 else y.x.tp i) q.1)=_/\wK (qW r0 n1 n2 n3 n4 n5) y.x.g ((if i=14 then y.x.tp 13 else y.x.tp i) q.1)=_;rcases ids h with⟨h,n⟩|n
    ·rw[aa n] at hq ⊢
     have T:=y.L.tup i h q hq d hd;exact⟨Cu y c T.2 () T.1,As y c T.2⟩
    ·rw[ai n] at hq ⊢
     have T:=y.L.tup 13 lM q hq d hd;exact⟨Cu y c T.2 () T.1,As y c T.2⟩,λi h=>by
    show y.z.A.ad i=some (if i=14 then e else y.x.th i);rcases ids h with⟨h,n⟩|n
    ·rw[aa n];exact y.L.th i h
    ·rw[n];exact hi,λa t h=>by
    have h:wK (qW r0 n1 n2 n3 n4 n5) y.x.g a=some t:=h;unfold wK at h;cases q:(qW r0 n1 n2 n3 n4 n5).lookup a with
    | some k=>have T:=M4 y c q;have N:=K7 y c T.1;rw[T.2];exact⟨y.z.un N.2.2,_,N.2.1,rt⟩
    | none=>
     rw[q] at h;obtain⟨u,o,p,l⟩:=y.L.un a t h;refine⟨u,?_⟩;by_cases z:a=RD
     ·rw[z];exact⟨_,c.rd,rfl⟩
     ·exact⟨o,c.pu a o p z,l⟩,As y c y.L.oB,As y c y.L.oR,λt ht=>(y.L.tb t ht).imp λes q=>⟨Cu y c q.2.1 (n6 ()) q.1,As y c q.2.1,λk d h=>⟨Cu y c (q.2.2 k d h).2 (n6 ()) (q.2.2 k d h).1,As y c (q.2.2 k d h).2⟩⟩⟩⟩
theorem Lf.oJ{y0 y:Y w BX RD}(a:Lf y0 y)(lM:13∈y.x.ids)(h14:14∉y.x.ids)(hi:y.z.A.ad 14=some e){P':PH}{r0 n1 n2 n3 n4 n5:Ad}(c:RowC y.z.P P' RD r0 (newR y r0) (PV e r0 (.str "B" 0) n1 n2 n3 n4 n5) (newL y n1 n2 n3 n4 n5)):Lf y0 (y.oJ lM h14 hi c):=⟨λb o p n q r=>by have s:=a.fr b o p n q r;exact⟨c.pu b o s.1 λz=>(by rw[z,y.L.oR] at s;cases s.2.2),s.2.1,(AN y c (by rw[s.1];intro q;cases q)).trans s.2.2⟩,λb o p n q=>by have s:=a.fz b o p n q;exact⟨Cu y c s.2 () s.1,As y c s.2⟩⟩
section
structure Sv(C C':Cont):Prop where
 c:∀ j,j≠14->j≠21->C'.c j=C.c j
 U5:C'.c 14=C.c 13
 NF:C'.c 21=C.c 20
 V:eK C'
 L:r9 C'
 U:Gn C'
theorem Et{C:Cont}(V:eK C)(L:r9 C)(U:Gn C)(l14:C.lk 14=false):Sv C (qQ C):=by
 have V1:=yu V;have c1:∀ j,j≠14->(kN C).c j=C.c j:=λj h=>aa h;have NF:C.c 21=dX:=(V 14 21 rfl l14).2;unfold qQ pT;cases h:C.lk 13 with
 | false=>rw[show(kN C).lk 13=false from h,aa ()];exact⟨λj a y=>c1 j a,xA,(c1 21 ()).trans (NF.trans (V 13 20 rfl h).2.symm),V1,L,U⟩
 | true=>
  rw[show(kN C).lk 13=true from h,ai rfl];have ec:=tN 8 (kN C) 14 V1 ⟨21,rfl⟩;have o:∀ j,j≠21->(nO (cV 8 (kN C) 14)).c j=(kN C).c j:=λj n=>(dG n).trans (congrFun ec j);refine⟨λj a b=>(o j b).trans (c1 j a),(o 14 ()).trans xA,fX.trans ((congrFun ec 20).trans (c1 20 ())),λi q hi l=>?_,AY 8 (kN C) 14 L ⟨21,rfl⟩,AZ 8 (kN C) 14 (qs 14) U ⟨21,rfl⟩⟩;have l:(cV 8 (kN C) 14).lk i=false:=l;have n:i≠14:=λe=>by rw[e,oX 8 (kN C) 14 (qs 14)] at l;cases l
  have nq:q≠21:=λe=>n (by have h1:=(jP.of hi).ao;rw[e] at h1;exact(kr (h1.symm.trans (show gU 21=some 14 from rfl))));have W:=qZ 8 (kN C) 14 V1 ⟨21,rfl⟩ i q hi l;exact⟨W.1,(dG nq).trans W.2⟩
theorem Nx.oJ{k:Nat}{y0 y:Y w BX RD}(a:Nx k y0 y)(z':Z w (qQ y.C) [])(l:Le y.z z')(lM:13∈y.x.ids)(h14:14∉y.x.ids)(y1:Y w BX RD)(e1:y1=y.go z' l)(hi){P':PH}{r0 n1 n2 n3 n4 n5:Ad}(c:RowC z'.P P' RD r0 (newR (y.go z' l) r0) (PV e r0 (.str "B" 0) n1 n2 n3 n4 n5) (newL (y.go z' l) n1 n2 n3 n4 n5)):
  Inv ((y.go z' l).oJ (e:=e) lM h14 hi c)/\Lf y0 ((y.go z' l).oJ (e:=e) lM h14 hi c):=by
 have I:=a.I
 have l14:y.C.lk 14=false:=by
  cases q:y.C.lk 14 with
  | false=>rfl
  | true=>obtain⟨b,hb⟩:=y.z.K.lk 14 q;rw[(I.Ho h14).1] at hb;cases hb
 have F:=Et I.V I.L I.lk l14;have usr21:∀{i},i∈pn->i≠21:=λh q=>by rw[q] at h;exact absurd h ⋯
 have o21:∀{i o},cU i=some o->i≠14->o≠14/\o≠21:=λ{i o} h n=>⟨λq=>(by have:=(jP.of h).ao;rw[q] at this;cases this),λq=>n (by have h1:=(jP.of h).ao;rw[q] at h1;exact(kr (h1.symm.trans (show gU 21=some 14 from rfl))))⟩
 refine⟨⟨⟨λi h=>?_,⟨fh _ I.O.b.1,fh _ I.O.b.2.1,fh _ I.O.b.2.2⟩,λi=>?_⟩,λi h=>?_,F.V,F.L,⟨I.b.1.imp λc h=>(l.ad 1 c h).1,I.b.2.imp λc h=>(l.ad 3 c h).1⟩,λi o h q hq=>?_,F.U,λh=>(h (fq _ (.head _))).elim,I.bx⟩,(a.f.go z' l).oJ lM h14 hi c⟩
 ·rcases cy h with h|h
  ·exact I.O.ids i h
  ·rw[cu h];decide +kernel
 ·show(if i=14 then y.x.D 13 else y.x.D i).mx∈oh/\(if i=14 then y.x.D 13 else y.x.D i).ah∈oh
  by_cases q:i=14
  ·rw[ai q];exact I.O.ls 13
  ·rw[aa q];exact I.O.ls i
 ·show(if i=14 then y.x.D 13 else y.x.D i)=rowOf (qQ y.C) i
  by_cases q:i=14
  ·rw[ai q,q,I.D 13 lM]
   unfold rowOf;rw[F.U5];have:sR (qQ y.C) 14=sR y.C 13:=by show oK ((qQ y.C).c 21).mt=oK (y.C.c 20).mt;rw[F.NF]
   rw[this]
  ·have h:=(cy h).resolve_right λh=>q (cu h)
   rw[aa q,I.D i h];unfold rowOf;rw[F.c i q (usr21 (I.O.ids i h))]
   have:sR (qQ y.C) i=sR y.C i:=by
    unfold sR;cases r:cU i with
    | none=>rfl
    | some o=>have t:=o21 r q;dsimp only;rw[F.c o t.1 t.2]
   rw[this]
 ·have hq:q∈((qQ y.C).c o).mt:=hq
  by_cases n:i=14
  ·rw[n] at h
   cases h;rw[F.NF] at hq;exact I.al 13 20 rfl q hq
  ·have t:=o21 h n
   rw[F.c o t.1 t.2] at hq;exact I.al i o h q hq
end
section
variable{m:Nat}{X:XP}{Q:VQ}{s mo:Str}
theorem yg(y:Y w BX RD)(I:Inv y)(hb:y.x.bx.2<2^29)(lM:13∈y.x.ids)(h14:14∉y.x.ids)(hn:y.x.ids.length<9)(hq:∀ y',Inv y'->Lf y y'->y'.x.ids=y.x.ids++[14]->y'.x.bx.2<=y.x.bx.2+1->Q (.bool true) y'.z.P):Calls (m+18) 1148 [.ref BX,.ref w.W,.ref RD] y.z.P X Q:=by
 have u13:(13:Nat)∈pn:=⋯;refine aB 98 rfl rfl rfl (λq=>aO (v:=.ref (y.x.r 13 0)) y.L.rows (bC (j:=13) u13 I.O.ids lM) λq=>aO (v:=.ref (y.x.th 13)) (y.row lM (k:=0) ()) rfl (xy (m:=m+16) y I (by lia) (n:=2) () λd a0 a1 y1 n1=>⟨bl,λt ht=>nR (aA ..) ⟨rfl,?_⟩⟩));let y2:=y1.go (y1.z.new t (.tup [.ref (y.x.th 13),.int d 0]) ht) ((Le.refl y1.z).new _ ht);have n2:Nx 1 y y2:=n1.go _ _;have h13':13∈y2.x.ids:=by rw[n2.ids];exact lM
 have h14':14∉y2.x.ids:=by rw[n2.ids];exact h14
 have hn':y2.x.ids.length<9:=by rw[n2.ids];exact hn
 have th:y2.z.A.ad 13=some (y.x.th 13):=n2.A 13 _ (y.L.th 13 lM);have eth:y2.x.th 13=y.x.th 13:=kr ((y2.L.th 13 h13').symm.trans th);obtain⟨b,hb1⟩:=n2.I.b.1;obtain⟨c3,hc3⟩:=n2.I.b.2;have Ho:=(n2.I.Ho h14').1;have D:=n2.I.D 13 h13'
 have rest:∀{l0:Le y2.z y2.z} (z':Z w (qQ y2.C) []) e (l:Le y2.z z') (he:z'.A.ad 14=some e) {N:NP},wpS (m+17) Sm (bV 2 fN) (lZ BX w RD (y.x.th 13) (some (.int d 0)) e none) z'.P X N Q:=λ{_} z' e l he {N}=>by
  have r:=Al (m:=m) (X:=X) (Q:=Q) (v4:=some (.int d 0)) (N:=N) (y2.go z' l) n2.I.O.ids h13' h14' hn' he (by
    show(y2.x.D 13).mt.length<20;rw[D];exact k6 (y2.z.K.wf.Iv 13) ()) (by
    show(y2.x.D 13).al.length<20;rw[D];exact k6 (fu (gi (ef ..)) (y2.z.K.wf.Iv 20)) ()) (by show(y2.x.D 13).ct.length<20;rw[D];exact k6 (y2.z.K.wf.Sn 13) ()) (k6 (cJ _ (gB (n2.I.O.ls 13).1)) ()) (k6 (cJ _ (gB (n2.I.O.ls 13).2)) ()) λP' r0 m1 m2 m3 m4 m5 c=>by have A:=n2.oJ z' l h13' h14' (y2.go z' l) rfl he c;exact hq _ A.1 A.2 (aj (·++[14]) n2.ids) n2.bx
  rw[show(y2.go z' l).x.th 13=y.x.th 13 from eth] at r;exact r
 by_cases hd:d=0
 ·subst hd
  refine⟨bl,λf hf=>?_⟩;have l0:Le y2.z (y2.z.new f (.list (0,0) []) hf):=(Le.refl y2.z).new _ hf;exact Qq (m:=m) (y2.z.new f (.list (0,0) []) hf) th hc3 hb1 Ho n2.I.V n2.I.L λz' e l he=>rest (l0:=.refl _) z' e (l0.trans l) he
 ·have hd1:d=1:=by lia
  subst hd1;refine⟨bl,λf hf=>?_⟩;have l0:Le y2.z (y2.z.new f (.list (0,0) []) hf):=(Le.refl y2.z).new _ hf;exact Kh (m:=m) (y2.z.new f (.list (0,0) []) hf) th hc3 hb1 Ho n2.I.V n2.I.L λz' e l he=>rest (l0:=.refl _) z' e (l0.trans l) he
end
section
variable{m:Nat}{X:XP}{Q:VQ}{P0:PH}
noncomputable def SQ:U:=OI (bV 1 vJ)
theorem GK{a:Ad}{o:PO}{v0:Op Va}{N:NP}(hN:∀(b:Int) v2,N [v0,some (.int b 0),v2,none,none] P0)(ha:P0 a=some o):∀(l:List Int) (b:Int) v2,cL (λv l P' k=>wpS m (fF 5) SQ (l.set 2 (some v)) (jV (fF 5) 2 P') X k Q) (λP'=>P' a=some o) (l.map λi=>.int i 0) [v0,some (.int b 0),v2,none,none] P0 N:=by
 intro rr;induction rr with
 | nil=>exactλb v2=>hN b v2
 | cons i l ih=>exactλb v2=>⟨(),⟨rfl,rfl⟩,(),(),ha,ih _ _⟩
abbrev JY:Prop:=nQ vQ=some (.list (0,0) (IK.map λi=>.int i 0))/\IK.length<big
theorem Na(h:JY){P:PH}(n:iC P):rd P vQ=some (.list (0,0) (IK.map λi=>.int i 0)):=by
 unfold rd;cases q:P vQ with
 | none=>exact h.1
 | some o=>have:=n _ _ q;rw[h.1] at this;cases this
theorem Tu{Ph:PH}{a:Ad}{t:Nat × Nat}{vs:List Va}{R:List Va->Prop}(h:rd Ph a=some (.list t vs))(hl:vs.length<big)(hq:R vs):(match rd Ph a with
 | some (.list _ vs)=>vs.length<big/\R vs
 | _=>False):=by rw[h];exact⟨hl,hq⟩
theorem Eg(hs:JY)(hq:∀ P' f (b:Int),Pu P0 P'->P0 f=none->P' f=some (.list (0,0) [.int b 0,.int 0 0])->Q (.ref f) P'):Calls (m+1) 1073 [.ref vQ] P0 X Q:=by refine aB 87 rfl rfl rfl (λns=>Ni (Na hs ns) ⟨by rw[ef];exact hs.2,(),()⟩ λa ha=>cO (aA ..) (by rw[List.length_take,ef];exact k6 (Nat.min_le_right ..) hs.2) ?_);rw[<-List.map_take];exact GK (λb v2=>⟨bl,λf hf=>hq _ f b (((Pu.refl P0).new _ ha).new _ hf) (((Pu.refl P0).new _ ha).un hf) (aA ..)⟩) (aA ..) _ _ _
end
section
variable{m:Nat}{X:XP}{Q:VQ}{s mo:Str}
noncomputable def zP:List Va:=[.ref 1120,.ref 1120,.ref 1127,.ref 1134,.ref 1141]
theorem Qp(y:Y w BX RD)(I:Inv y)(hb:y.x.bx.2<2^29)(hi:i∈y.x.ids)(hu:i=12\/i=13\/i=14){f:Ad}(hf:f=1120\/f=1127\/f=1134\/f=1141){t:Int}(hq:∀ y',Nx 3 y y'->Q (.bool true) y'.z.P):Calls (m+40) f [.ref BX,.ref w.W,.ref RD,.str (fC i) 0,.int t 0] y.z.P X Q:=by
 rcases hf with rfl|rfl|rfl|rfl
 ·exact nX (m:=m+36) y I hb hi (λz=>by subst z;exact absurd hu ()) λy' n=>hq y' (n.le ())
 ·exact zZ (m:=m+1) y I hb hi hu hq
 ·exact zY (m:=m+33) y I hb hi hu λy' n=>hq y' (n.le ())
 ·exact BL (m:=m+23) y I hb hi hu λy' n=>hq y' (n.le ())
noncomputable def SP:U:=match bV 5 r7 with
 | .seq (.qe _ _ b) _=>b
 | _=>.skip
noncomputable def lL(BX:Ad)(w:Wc)(RD:Ad)(sc ba ea en:Ad)(lg:Int)(v8 v9 v10 v11:Op Va):Lv:=(some (.ref sc)::some (.ref BX)::some (.int lg 0)::some (.ref w.W)::some (.ref ba)::some (.ref RD)::some (.ref ea)::some (.ref en)::v8::v9::v10::v11::nN 15)
theorem Nh(y:Y w BX RD)(I:Inv y)(hb:y.x.bx.2<2^29)(hi:i∈y.x.ids)(hu:i=12\/i=13\/i=14\/i=15)(lM:13∈y.x.ids){f sc ba ea en:Ad}{lg t:Int}{v10:Op Va}(hf:f=1120\/f=1127\/f=1134\/f=1141)(h15:i=15->f=1120){N:NP}(hq:∀ y',Nx 3 y y'->N (lL BX w RD sc ba ea en lg (some (.int t 0)) (some (.str (fC i) 0)) v10 (some (.ref f))) y'.z.P):
  wpS (m+40) BW (bV 3 SP) (lL BX w RD sc ba ea en lg (some (.int t 0)) (some (.str (fC i) 0)) v10 (some (.ref f))) y.z.P X N Q:=by
 have ac:∀{Q:VQ},(∀ y',Nx 3 y y'->Q (.bool true) y'.z.P)->Calls (m+40) f [.ref BX,.ref w.W,.ref RD,.str (fC i) 0,.int t 0] y.z.P X Q:=λ{Q} h=>by
  by_cases q:i=15
  ·subst q
   rw[h15 rfl];exact nX (m:=m+36) y I hb hi () λy' n=>h y' (n.le ())
  ·exact Qp y I hb hi (hu.imp id λz=>z.imp id λz=>z.resolve_right q) hf h
 refine⟨.inl (by rcases hf with rfl|rfl|rfl|rfl<;>rfl),ac λy1 n1=>?_⟩;have h13':13∈y1.x.ids:=by rw[n1.ids];exact lM
 by_cases h14:14∈y1.x.ids
 ·refineλu=>bW (b:=true) (by rw[inD (dF y1.L.rows),show aR "D" _=_ from bC (j:=14) ⋯ n1.I.O.ids h14];rfl) ⟨bl,λa ha=>?_⟩
  let y2:=y1.go (y1.z.new a (.list (0,0) (fQ [13,14])) ha) ((Le.refl y1.z).new _ ha);have n2:Nx 3 y y2:=n1.go _ _;exact jW (m:=m) y2 n2.I (ns:=[13,14]) (λj hj=>by
   rcases ku hj with h|h
   ·rw[h];exact⟨h13',.inr (.inl rfl)⟩
   ·rw[cu h];exact⟨h14,.inr (.inr rfl)⟩) () ⟨aA ..,y1.z.un ha,y1.w5 ha⟩ λy' n=>hq y' (n2.trans n)
 ·refineλu=>bW (b:=false) (by rw[inD (dF y1.L.rows),show aR "D" _=_ from IJ (j:=14) ⋯ n1.I.O.ids h14];rfl) ⟨bl,λa ha=>?_⟩
  let y2:=y1.go (y1.z.new a (.list (0,0) (fQ [13])) ha) ((Le.refl y1.z).new _ ha);have n2:Nx 3 y y2:=n1.go _ _;exact jW (m:=m) y2 n2.I (ns:=[13]) (λj hj=>by rw[cu hj];exact⟨h13',.inr (.inl rfl)⟩) () ⟨aA ..,y1.z.un ha,y1.w5 ha⟩ λy' n=>hq y' (n2.trans n)
end
section
section
variable{m:Nat}{X:XP}{Q:VQ}{s mo:Str}
noncomputable def aL:List Ad:=[1120,1120,1127,1134,1141]
theorem J2{k:Int}(h:0<=k/\k<5):∃ f,zP[k.toNat]?=some (.ref f)/\(f=1120\/f=1127\/f=1134\/f=1141):=by have hn:k.toNat<aL.length:=(Int.toNat_lt h.1).mpr h.2;refine⟨aL[k.toNat],?_,(by decide +kernel:∀ f∈aL,f=1120\/f=1127\/f=1134\/f=1141) _ (j9 hn)⟩;show(aL.map Value.ref)[k.toNat]?=_;rw[gj,f9 hn];rfl
structure Kept(y:Y w BX RD)(a:Ad)(vs:List Va):Prop where
 p:y.z.P a=some (.list (0,0) vs)
 h:y.z.h a=none
 g:y.x.g a=none
theorem Kept.of{y y':Y w BX RD}{a:Ad}{vs:List Va}(k:Kept y a vs)(f:Lf y y'):Kept y' a vs:=have s:=f.fr a _ k.p rfl k.h k.g;⟨s.1,s.2.1,s.2.2⟩
theorem Ng(y:Y w BX RD)(I:Inv y)(hb:y.x.bx.2<2^28){ns:List Nat}(hs:∀ i∈ns,i∈y.x.ids/\(i=12\/i=13\/i=14\/i=15))(hl:0<ns.length/\ns.length<9)(lM:13∈y.x.ids){sc ba ea en:Ad}(ka:Kept y ea zP)(kn:Kept y en (fQ ns)){lg t:Int}{v9 v10 v11:Op Va}{N:NP}(hq:∀ y' v9 v10 v11,Nx 5 y y'->N (lL BX w RD sc ba ea en lg (some (.int t 0)) v9 v10 v11) y'.z.P):
  wpS (m+40) BW (bV 1 SP) (lL BX w RD sc ba ea en lg (some (.int t 0)) v9 v10 v11) y.z.P X N Q:=by
 have nl:(fQ ns).length<big:=by rw[cP];exact gy hl.2 ()
 refine Ib kn.p nl (xy (m:=m+39) y I (iz hb ()) (n:=(fQ ns).length) (by rw[cP];exact⟨Int.ofNat_lt.mpr hl.1,iz (Int.ofNat_lt.mpr hl.2) ()⟩) λd a0 a1 y1 n1=>?_);rw[cP] at a1;have hd:d.toNat<ns.length:=(Int.toNat_lt a0).mpr a1;have k1:=kn.of n1.f;have g1:(fQ ns)[d.toNat]?=some (.str (fC ns[d.toNat]) 0):=by unfold fQ;rw[gj,f9 hd];rfl
 have hj:=hs _ (j9 hd);refine cB k1.p a0 (iz a1 (iz (Int.ofNat_lt.mpr hl.2) ())) g1 (xy (m:=m+39) y1 n1.I (Qn n1.bx hb ()) (n:=5) () λk b0 b1 y2 n2=>⟨bl,λf hf=>nR (aA ..) ⟨rfl,?_⟩⟩);let y3:=y2.go (y2.z.new f (.tup [.str (fC ns[d.toNat]) 0,.int k 0]) hf) ((Le.refl y2.z).new _ hf);have n3:Nx 2 y y3:=(n1.trans n2).go _ _;have ka3:=ka.of n3.f;have hi3:ns[d.toNat]∈y3.x.ids:=by rw[n3.ids];exact hj.1
 have h13':13∈y3.x.ids:=by rw[n3.ids];exact lM
 obtain⟨f',hf',of'⟩:=J2 ⟨b0,b1⟩;have b3:y3.x.bx.2<2^29:=Qn n3.bx hb ();by_cases q:ns[d.toNat]=15
 ·refine bt (au (by rw[q];rfl)) ?_
  exact Nh (m:=m) y3 n3.I b3 hi3 hj.2 h13' (f:=1120) (.inl rfl) (λj=>rfl) λy' n=>hq y' _ _ _ (n3.trans n)
 ·refine bf (av λh=>q (tK _ (I.O.ids _ hj.1) 15 ⋯ h)) (cB ka3.p b0 (iz b1 ()) hf' ?_)
  exact Nh (m:=m) y3 n3.I b3 hi3 hj.2 h13' of' (λh=>(q h).elim) λy' n=>hq y' _ _ _ (n3.trans n)
end
end
section
noncomputable def jY:List Nat:=[12,13,15,16]
structure Turn(y:Y w BX RD)(q:Nat)(c:Nat)(ea en:Ad)(ns:List Nat):Prop where
 I:Inv y
 lM:13∈y.x.ids
 bf:q<=c->y.x.ids=jY
 b:y.x.bx.2<=6*q
 ka:Kept y ea zP
 kn:Kept y en (fQ ns)
 ns:(∀ i∈ns,i∈y.x.ids/\(i=12\/i=13\/i=14\/i=15))/\0<ns.length/\ns.length<9
section
variable{m:Nat}{X:XP}{Q:VQ}{s mo:Str}
theorem turns{sc ba ea:Ad}{lg:Nat}(hlg:lg<=1){N:NP}(hN:∀ l (y:Y w BX RD),N l y.z.P):∀(k q:Nat) (y:Y w BX RD) en ns v8 v9 v10 v11,q+k<=10->Turn y q (2+2*lg) ea en ns->xK (λq l P' k=>wpS (m+40) BW SP (l.set 8 (some (.int q 0))) (jV BW 8 P') X k Q) q k (lL BX w RD sc ba ea en lg v8 v9 v10 v11) y.z.P N:=by
 intro rr;induction rr with
 | zero=>exactλq y en ns v8 v9 v10 v11 j j=>hN _ y
 | succ k ih=>
  intro q y en ns v8 v9 v10 v11 hk T;refine⟨by lia,?_⟩;by_cases h:(q:Int)=2+2*lg
  ·have h':q=2+2*lg:=by lia
   have ids:=T.bf (by lia);refine bt (au h) (yg (m:=m+22) y T.I (by have:=T.b;lia) T.lM (by rw[ids];decide +kernel) (by rw[ids];decide) λy1 I1 f1 e1 b1=>⟨bl,λa ha=>?_⟩);let y2:=y1.go (y1.z.new a (.list (0,0) (fQ [13,14,13,14,12,15])) ha) ((Le.refl y1.z).new _ ha);have n2:Nx 0 y1 y2:=(Nx.refl I1).go _ _;have ids2:y2.x.ids=jY++[14]:=e1.trans (aj (·++[14]) ids);have hs:∀ i∈([13,14,13,14,12,15]:List Nat),i∈y2.x.ids/\(i=12\/i=13\/i=14\/i=15):=λi hi=>by rw[ids2];exact(by decide +kernel:∀ i∈([13,14,13,14,12,15]:List Nat),i∈jY++[14]/\(i=12\/i=13\/i=14\/i=15)) i hi
   have ka2:=(T.ka.of f1).of n2.f;have kn2:Kept y2 a (fQ [13,14,13,14,12,15]):=⟨aA ..,y1.z.un ha,y1.w5 ha⟩
   have b2:y2.x.bx.2<=6*q+1:=by have:=T.b;have h2:y2.x.bx.2=y1.x.bx.2:=rfl;lia
   have lM:13∈y2.x.ids:=by rw[ids2];decide +kernel
   refine Ng (m:=m) y2 n2.I (by lia) hs ⟨(),()⟩ lM ka2 kn2 λy' v9 v10 v11 n=>ih (q+1) y' a _ _ v9 v10 v11 (by lia) ⟨n.I,by rw[n.ids];exact lM,λz=>by lia,by have:=n.bx;lia,ka2.of n.f,kn2.of n.f,λi hi=>by rw[n.ids];exact hs i hi,(),()⟩
  ·refine bf (av h) (Ng (m:=m) y T.I (by have:=T.b;lia) T.ns.1 T.ns.2 T.lM T.ka T.kn λy' v9 v10 v11 n=>ih (q+1) y' en ns _ v9 v10 v11 (by lia) ⟨n.I,by rw[n.ids];exact T.lM,λz=>n.ids.trans (T.bf (by lia)),by have:=n.bx;have:=T.b;lia,T.ka.of n.f,T.kn.of n.f,λi hi=>by rw[n.ids];exact T.ns.1 i hi,T.ns.2⟩)
end
end
section
variable{m:Nat}{X:XP}{Q:VQ}{w:Wc}{C:Cont}{p:Nat}{b c:Ad}
theorem SJ(z:Z w C [])(h1:z.A.ad 1=some b):∃ c,z.A.ad 3=some c:=z.K.ref 1 b h1 nn 3 (.head _)
theorem UQ(z:Z w C [])(h3:z.A.ad 3=some c):∃ c,z.A.ad 2=some c:=z.K.ref 3 c h3 nn 2 (.tail _ (.head _))
theorem My(z:Z w C [])(h1:z.A.ad 1=some b)(ha:z.A.ad p=some a)(hi:i=12/\p=1\/i=13/\p=12)(ni:z.A.ad i=none)(nc:C.c i=dX)(hq:∀(z':Z w (C.new i dX) []) e,Le z z'->z'.A.ad i=some e->Q (.ref e) z'.P):Calls (m+5) 436 [.ref w.W,.ref a] z.P X Q:=by
 obtain⟨c3,h3⟩:=SJ z h1;have F:par i=some p/\qk i=3/\gU i=none/\qC i=none/\gJ i=true/\nat i=none/\(12<=i/\i<22)/\(gJ p=true/\gU p=none/\p≠3):=by rcases hi with⟨rfl,rfl⟩|⟨rfl,rfl⟩<;>exact⟨rfl,rfl,rfl,rfl,rfl,rfl,(),rfl,rfl,()⟩
 obtain⟨F1,F2,F3,F4,F5,F6,F7,F8⟩:=F;refine yi (m:=m) z h3 h1 ha F8 λz' e k num r=>?_;have hf:=u9 (A:=z.A.set i e num) (lk:=false) (i:=i) (k:=k) (num:=.int num 0) (ow:=.ref c3) (nm:=.none) (ic:=.bool true) (pa:=.ref a) (at':=.none) (na:=.none) (kv:=.none) (by rw[show(z.A.set i e num).num i=num from ai rfl]) (by rw[F2];exact(aQ (bT ni _ _ h3).1).symm) rfl (by rw[F4];rfl) (by rw[F5]) (by rw[F1];exact(aQ (bT ni _ _ ha).1).symm) (by rw[F3];rfl) (by rw[F6];rfl) (by unfold Kp.kv;rw[r.kn];rfl)
 have hr:∀ j∈qk i::((par i).toList++(gU i).toList),∃ b,(z.A.set i e num).ad j=some b:=λj hj=>by
  rw[F1,F2,F3] at hj;rcases ku hj with h|h
  ·exact⟨c3,by rw[h];exact(bT ni _ _ h3).1⟩
  ·have h:j∈[p]:=h
   exact⟨a,by rw[cu h];exact(bT ni _ _ ha).1⟩
 exact hq (r.add ni F7 nc hf hr) e (r.Tq ni F7 nc hf hr) (by show(z'.A.set i e num).ad i=_;exact set_same _ _ _ _)
theorem Mz(z:Z w C [])(h1:z.A.ad 1=some b)(hi:i=15\/i=16)(ni:z.A.ad i=none)(nc:C.c i=dX)(hq:∀(z':Z w (C.new i dX) []) e,Le z z'->z'.A.ad i=some e->Q (.ref e) z'.P):Calls (m+5) 443 [.ref w.W] z.P X Q:=by
 obtain⟨c3,h3⟩:=SJ z h1;obtain⟨c2,h2⟩:=UQ z h3;have F:par i=none/\qk i=2/\gU i=none/\qC i=none/\gJ i=false/\nat i=none/\(12<=i/\i<22):=by rcases hi with rfl|rfl<;>exact⟨rfl,rfl,rfl,rfl,rfl,rfl,()⟩
 obtain⟨F1,F2,F3,F4,F5,F6,F7⟩:=F;refine wc (m:=m) z h2 λz' e k num r=>?_;have hf:=u9 (A:=z.A.set i e num) (lk:=false) (i:=i) (k:=k) (num:=.int num 0) (ow:=.ref c2) (nm:=.none) (ic:=.bool false) (pa:=.none) (at':=.none) (na:=.none) (kv:=.none) (by rw[show(z.A.set i e num).num i=num from ai rfl]) (by rw[F2];exact(aQ (bT ni _ _ h2).1).symm) rfl (by rw[F4];rfl) (by rw[F5]) (by rw[F1];rfl) (by rw[F3];rfl) (by rw[F6];rfl) (by unfold Kp.kv;rw[r.kn];rfl);have hr:∀ j∈qk i::((par i).toList++(gU i).toList),∃ b,(z.A.set i e num).ad j=some b:=λj hj=>by rw[F1,F2,F3] at hj;rw[cu hj];exact⟨c2,(bT ni _ _ h2).1⟩
 exact hq (r.add ni F7 nc hf hr) e (r.Tq ni F7 nc hf hr) (by show(z'.A.set i e num).ad i=_;exact set_same _ _ _ _)
theorem AP(z:Z w C [])(h:C.ex i=false)(hi:12<=i):z.A.ad i=none:=by
 have k:=z.K.ex i hi;cases q:z.A.ad i with
 | none=>rfl
 | some a=>rw[q,h] at k;cases k
theorem Nk:eK C4:=λi o h q=>by
 have key:∀ i,i<22->∀ o∈(cU i).toList,C4.ex o=false/\(vV o=[]/\o∉[12,13,15,16]):=⋯;have hi:i<22:=by have h1:=(jP.of h).ao;have h2:∀ o,o<22->∀ i∈(gU o).toList,i<22:=⋯;exact h2 o (jP.of h).lo.2 i (Option.mem_toList.mpr h1)
 have k:=key i hi o (Option.mem_toList.mpr h);refine⟨k.1,?_⟩;show(if o=16 then dX else if o=15 then dX else if o=13 then dX else if o=12 then dX else⟨[],[],vV o,[]⟩)=dX;rw[k.2.1]
 repeat' split
 all_goals rfl
theorem Ss:r9 C4:=λi h=>by cases h
theorem Su:Gn C4:=λi p q q h=>by cases h
end
section
section
variable{w:Wc}{C C':Cont}{z:Z w C []}{L:List (Ad × Tag × PO)}
theorem fY.le(H:fY z L){z':Z w C' []}(l:Le z z'):fY z' L:=⟨λq hq=>have a:=H.at_ q hq;have f:=l.fr _ _ a.1 a.2.1 (.inl a.2.2);⟨f.1,a.2.1,f.2.trans a.2.2⟩,H.nd⟩
theorem fY.fresh(H:fY z L){e:Ad}(he:z.P e=none):e∉L.map (·.1):=λh=>by obtain⟨q,hq,rfl⟩:=List.mem_map.mp h;rw[(H.at_ q hq).1] at he;cases he
theorem fY.new(H:fY z L){e:Ad}(he:z.P e=none)(t:Tag){o:PO}(no:o.bR=false):fY (z.new e o he) ((e,t,o)::L):=
 ⟨λq hq=>by
  rcases ku hq with h|h
  ·rw[h];exact⟨aA ..,no,z.un he⟩
  ·have a:=H.at_ q h;exact⟨aI a.1 he,a.2⟩,dh ⟨H.fresh he,H.nd⟩⟩
theorem fY.put{e:Ad}{t:Tag}{o:PO}(H:fY z ((e,t,o)::L)){o':PO}(no:o'.bR=false):fY (z.put e o' (H.at_ _ (.head _)).2.2) ((e,t,o')::L):=
 have n:=dj H.nd
 ⟨λq hq=>by
  rcases ku hq with h|h
  ·rw[h];exact⟨aA ..,no,(H.at_ _ (.head _)).2.2⟩
  ·have a:=H.at_ q (.tail _ h)
   exact⟨(aD λx:q.1=e=>n.1 (List.mem_map.mpr ⟨q,h,x⟩)).trans a.1,a.2⟩,dh n⟩
theorem fY.row(H:fY z L){P':PH}{r:Nat->Ad}{a:Ad}{pv:Va}(nr:Gp z.P P' r a pv)(i:Nat):
  fY (z.pu P' nr.pu) ((r 5,(5,i),.list (0,0) [])::(r 4,(4,i),.list (0,0) [])::(r 3,(3,i),.dict (0,0) [])::(r 2,(2,i),.dict (0,0) [])::(r 1,(1,i),.dict (0,0) [])::(r 0,(0,i),.dict (0,0) [("thing",.ref a),("parent",pv),("methods",.ref (r 1)),("alone",.ref (r 2)),("consts",.ref (r 3)),("mixed",.ref (r 4)),("front",.ref (r 5))])::L):=by
 have f:∀ k,k<6->r k∉L.map (·.1):=λk h=>H.fresh (nr.fr k h);have u:∀ k,k<6->(z.pu P' nr.pu).h (r k)=none:=λk h=>z.un (nr.fr k h);refine⟨λq hq=>?_,?_⟩
 ·rcases ku hq with h|hq
  ·rw[h];exact⟨nr.UU,rfl,u 5 ()⟩
  rcases ku hq with h|hq
  ·rw[h];exact⟨nr.UT,rfl,u 4 ()⟩
  rcases ku hq with h|hq
  ·rw[h];exact⟨nr.US,rfl,u 3 ()⟩
  rcases ku hq with h|hq
  ·rw[h];exact⟨nr.at2,rfl,u 2 ()⟩
  rcases ku hq with h|hq
  ·rw[h];exact⟨nr.UR,rfl,u 1 ()⟩
  rcases ku hq with h|hq
  ·rw[h];exact⟨nr.Mr,rfl,u 0 ()⟩
  have a:=H.at_ q hq;exact⟨nr.pu _ _ a.1,a.2⟩
 ·show([r 5,r 4,r 3,r 2,r 1,r 0]++L.map (·.1)).Nodup
  refine List.nodup_append.mpr ⟨nr.ne,H.nd,λx hx y hy q=>?_⟩;subst q
  have:∃ k,k<6/\x=r k:=by
   rcases ku hx with h|hx
   ·exact⟨5,(),h⟩
   rcases ku hx with h|hx
   ·exact⟨4,(),h⟩
   rcases ku hx with h|hx
   ·exact⟨3,(),h⟩
   rcases ku hx with h|hx
   ·exact⟨2,(),h⟩
   rcases ku hx with h|hx
   ·exact⟨1,(),h⟩
   ·exact⟨0,(),cu hx⟩
  obtain⟨k,hk,rfl⟩:=this;exact f k hk hy
end
end
section
noncomputable def Fi:iT:=⟨[],[],[],[],[]⟩
noncomputable def x0(r:Nat->Nat->Ad)(th:Nat->Ad)(L:List (Ad × Tag × PO))(b:Int):Lx:=⟨r,λq q=>0,th,jY,λc=>(L.lookup c).map (·.1),(b,0),λq=>Fi⟩
variable{C:Cont}{z:Z w C []}{L:List (Ad × Tag × PO)}
noncomputable def Y.start(H:fY z L){r:Nat->Nat->Ad}{th:Nat->Ad}{b:Int}(hB:(BX,((7,99):Tag),PO.list (0,0) [.int b 0,.int 0 0])∈L)(hR:(RD,((6,99):Tag),PO.dict (0,0) (jY.map λi=>(fC i,.ref (r i 0))))∈L)
  (hr:∀ i∈jY,∀ k,k<6->(r i k,((k,i):Tag),cG (th i) (r i) (λj=>0) Fi i k)∈L) (ht:∀ i∈jY,z.A.ad i=some (th i)) (htb:∀ t,t=1122\/t=1164->(t,((8,t):Tag),PO.tab [])∈L):Y w BX RD:=
 ⟨C,z,x0 r th L b,by
  have g:∀{c t o},(c,t,o)∈L->(x0 r th L b).g c=some t:=λh=>by show(L.lookup _).map (·.1)=_;rw[uX H.nd h];rfl
  exact⟨(H.at_ _ hB).1,(H.at_ _ hR).1,λi hi k hk=>⟨(H.at_ _ (hr i hi k hk)).1,g (hr i hi k hk)⟩,λi j q hq=>absurd hq gk,ht,λc t h=>by
    have h:(L.lookup c).map (·.1)=some t:=h;cases q:L.lookup c with
    | none=>rw[q] at h;cases h
    | some v=>have a:=H.at_ _ (lookup_mem q);exact⟨a.2.2,_,a.1,a.2.1⟩,g hB,g hR,λt h=>⟨[],(H.at_ _ (htb t h)).1,g (htb t h),λk c e=>by cases e⟩⟩⟩
end
variable{z:Z w C4 []}{L:List (Ad × Tag × PO)}
theorem Nl:∀ i,12<=i->C4.c i=dX:=λi h=>by
 show(if i=16 then dX else if i=15 then dX else if i=13 then dX else if i=12 then dX else⟨[],[],vV i,[]⟩)=dX;by_cases h22:i<22
 ·have:∀ i,i<22->12<=i->vV i=[]:=⋯
  rw[this i h22 h]
  repeat' split
  all_goals rfl
 ·have:vV i=[]:=by unfold vV;rw[aa (by lia),aa (by lia),aa (by lia)]
  rw[this]
  repeat' split
  all_goals rfl
theorem Inv.start(H:fY z L){r:Nat->Nat->Ad}{th:Nat->Ad}{b:Int}(hB:(BX,((7,99):Tag),PO.list (0,0) [.int b 0,.int 0 0])∈L)(hR:(RD,((6,99):Tag),PO.dict (0,0) (jY.map λi=>(fC i,.ref (r i 0))))∈L)
  (hr:∀ i∈jY,∀ k,k<6->(r i k,((k,i):Tag),cG (th i) (r i) (λj=>0) Fi i k)∈L) (ht:∀ i∈jY,z.A.ad i=some (th i)) (htb:∀ t,t=1122\/t=1164->(t,((8,t):Tag),PO.tab [])∈L) {a1 a3:Ad} (h1:z.A.ad 1=some a1) (h3:z.A.ad 3=some a3):Inv (Y.start H hB hR hr ht htb):=by
 have ow:∀{i o},cU i=some o->12<=o->C4.c o=dX:=λj h=>Nl _ h;refine⟨⟨(by decide +kernel:∀ i∈jY,i∈pn),(by decide +kernel:12∈jY/\15∈jY/\16∈jY),λi=>(by decide +kernel:([]:List Nat)∈oh/\([]:List Nat)∈oh)⟩,λi hi=>?_,Nk,Ss,⟨⟨a1,h1⟩,⟨a3,h3⟩⟩,λi o h q hq=>?_,Su,λh=>⟨AP z rfl (),Nl 14 ()⟩,eu _⟩
 ·have:∀ i∈jY,12<=i:=⋯
  show Fi=rowOf C4 i;unfold rowOf;rw[Nl i (this i hi)]
  have:sR C4 i=[]:=by
   unfold sR;cases h:cU i with
   | none=>rfl
   | some o=>dsimp only;rw[(Nk i o h rfl).2];rfl
  rw[this];rfl
 ·have hq:q∈(C4.c o).mt:=hq
  rw[(Nk i o h rfl).2] at hq;exact absurd hq gk
section
variable{m:Nat}{X:XP}{Q:VQ}{P0:PH}
theorem GO{nd:Ad}{R:Ad->PH->Prop}(hnd:P0 nd=some (.dict (0,0) []))(hq:∀(w:Wc) (z:Z w C0 []) b,z.A.ad 1=some b->(∀ c o,P0 c=some o->o.bR=false->c≠nd->z.P c=some o/\z.h c=none)->R w.W z.P):
  ∀ a,P0 a=none->Calls (m+31) 815 [.ref a,.ref nd] (upd P0 a (.inst 1055 [])) X λv P'=>v=.none/\R a P':=λa ha=>Calls.mono (Ke (m:=m) (Q:=λv P'=>∃ a,v=.ref a/\R a P') hnd (λw z b h f=>⟨_,rfl,hq w z b h f⟩) a ha) (f7 _) (λq q h=>h) λq q h=>⟨h.1,by obtain⟨_,b,e,h⟩:=h;cases e;exact h⟩
end
theorem qt{r:Nat->Ad}{a:Ad}{i:Nat}:∀ k,k<6->(r k,((k,i):Tag),cG a r (λq=>0) Fi i k)∈gM r a (nP i) i
 | 0,_=>.tail _ (.tail _ (.tail _ (.tail _ (.tail _ (.head _)))))
 | 1,_=>.tail _ (.tail _ (.tail _ (.tail _ (.head _))))
 | 2,_=>.tail _ (.tail _ (.tail _ (.head _)))
 | 3,_=>.tail _ (.tail _ (.head _))
 | 4,_=>.tail _ (.head _)
 | 5,_=>.head _
 | k+6,h=>absurd h (by lia)
section
variable{m:Nat}{X:XP}{Q:VQ}{w:Wc}{C:Cont}
theorem fY.perm{z:Z w C []}{L L':List (Ad × Tag × PO)}(H:fY z L)(p:L.Perm L'):fY z L':=⟨λq h=>H.at_ q (p.mem_iff.mpr h),(p.map _).nodup_iff.mp H.nd⟩
theorem C5{z:Z w C []}{L:List (Ad × Tag × PO)}(H:fY z L)(i:Nat){a:Ad}{pv:Va}(hq:∀(z':Z w C []) r,Le z z'->fY z' (gM r a pv i++L)->Q (.ref (r 0)) z'.P):Calls (m+1) 1094 [.ref a,pv] z.P X Q:=xo λP' r nr=>hq (z.pu P' nr.pu) r ((Le.refl z).pu _ nr.pu) (H.row nr i)
theorem NG{z:Z w C0 []}{a1:Ad}(ha1:z.A.ad 1=some a1){L:List (Ad × Tag × PO)}(H:fY z L){BX sc:Ad}{lg:Int}{N:NP}
  (hq:∀(z':Z w C4 []) RD rB rC rM rN e12 e13 e15 e16,fY z' ((RD,(6,99),.dict (0,0) [("B",.ref (rB 0)),("C",.ref (rC 0)),("M",.ref (rM 0)),("N",.ref (rN 0))])::(gM rN e16 .none 16++(gM rM e15 .none 15++(gM rC e13 (.str "B" 0) 13++(gM rB e12 .none 12++L)))))->z'.A.ad 12=some e12->z'.A.ad 13=some e13->z'.A.ad 15=some e15->z'.A.ad 16=some e16->z'.A.ad 1=some a1->wpS (m+40) BW (bV 4 r7) (some (.ref sc)::some (.ref BX)::some (.int lg 0)::some (.ref w.W)::some (.ref e12)::some (.ref RD)::nN 21) z'.P X N Q):
  wpS (m+40) BW (bV 1 r7) (some (.ref sc)::some (.ref BX)::some (.int lg 0)::some (.ref w.W)::nN 23) z.P X N Q:=by refine aU z.K.W oq.1 (by rw[oq.2];trivial) (dD (m:=m+39) (i:=1) z rfl ha1 (My (m:=m+35) (i:=12) (p:=1) z ha1 ha1 (.inl ⟨rfl,rfl⟩) (AP z rfl ()) rfl λz1 e12 l1 h12=>⟨⟨(),(),()⟩,λd hd=>?_⟩));let z2:=z1.new d (.dict (0,0) []) hd;have H2:fY z2 ((d,(6,99),.dict (0,0) [])::L):=(H.le l1).new hd _ rfl;refine C5 (m:=m+39) H2 12 λz3 rB l3 H3=>?_;have b3:=(l3.ad _ _ (l1.ad _ _ ha1).1).1;have c3:=(l3.ad _ _ h12).1;refine My (m:=m+35) (i:=13) (p:=12) z3 b3 c3 (.inr ⟨rfl,rfl⟩) (AP z3 rfl ()) rfl λz4 e13 l4 lM=>C5 (m:=m+39) (H3.le l4) 13 λz5 rC l5 H5=>?_;have H6:fY z5 ((d,(6,99),.dict (0,0) [])::(gM rC e13 (.str "B" 0) 13++(gM rB e12 .none 12++L))):=H5.perm (by rw[<-i0];refine List.perm_middle.trans ?_;rw[i0]);refine⟨rfl,(H6.at_ _ (.head _)).1,?_⟩;have H7:=H6.put (o':=.dict (0,0) [("B",.ref (rB 0)),("C",.ref (rC 0))]) rfl;let z7:=z5.put d (.dict (0,0) [("B",.ref (rB 0)),("C",.ref (rC 0))]) (H6.at_ _ (.head _)).2.2;have b7:z7.A.ad 1=some a1:=(l5.ad _ _ (l4.ad _ _ b3).1).1;have c7:z7.A.ad 12=some e12:=(l5.ad _ _ (l4.ad _ _ c3).1).1;have d7:z7.A.ad 13=some e13:=(l5.ad _ _ lM).1;refine Mz (m:=m+35) (i:=15) z7 b7 (.inl rfl) (AP z7 rfl ()) rfl λz8 e15 l8 h15=>C5 (m:=m+39) (H7.le l8) 15 λz9 rM l9 H9=>?_;refine Mz (m:=m+35) (i:=16) z9 (l9.ad _ _ (l8.ad _ _ b7).1).1 (.inr rfl) (AP z9 rfl ()) rfl λz10 e16 l10 h16=>C5 (m:=m+39) (H9.le l10) 16 λz11 rN l11 H11=>?_;have H12:fY z11 ((d,(6,99),.dict (0,0) [("B",.ref (rB 0)),("C",.ref (rC 0))])::(gM rN e16 .none 16++(gM rM e15 .none 15++(gM rC e13 (.str "B" 0) 13++(gM rB e12 .none 12++L))))):=H11.perm (by rw[<-i0];refine List.perm_middle.trans ?_;rw[i0]);refine uK (H12.at_ _ (.head _)).1 ⟨bl,?_⟩;have H13:=H12.put (o':=.dict (0,0) [("B",.ref (rB 0)),("C",.ref (rC 0)),("M",.ref (rM 0))]) rfl;refine uK (aA ..) ⟨bl,?_⟩;have H14:=H13.put (o':=.dict (0,0) [("B",.ref (rB 0)),("C",.ref (rC 0)),("M",.ref (rM 0)),("N",.ref (rN 0))]) rfl;have k:∀{i e},z9.A.ad i=some e->z11.A.ad i=some e:=λh=>(l11.ad _ _ (l10.ad _ _ h).1).1;have k':∀{i e},z7.A.ad i=some e->z11.A.ad i=some e:=λh=>k (l9.ad _ _ (l8.ad _ _ h).1).1;exact hq _ d rB rC rM rN e12 e13 e15 e16 H14 (k' c7) (k' d7) (k (l9.ad _ _ h15).1) (l11.ad _ _ h16).1 (k' b7)
end
noncomputable def xQ{α:Type}(a b c d:α)(i:Nat):α:=if i=12 then a else if i=13 then b else if i=15 then c else d
theorem uM{p:Nat->Prop}(a:p 12)(b:p 13)(c:p 15)(d:p 16):∀ i∈jY,p i:=λi hi=>by
 rcases ku hi with h|hi
 ·rw[h];exact a
 rcases ku hi with h|hi
 ·rw[h];exact b
 rcases ku hi with h|hi
 ·rw[h];exact c
 ·rw[cu hi];exact d
theorem EM:pB w BX RD:=by
 intro m X Q N z sc b rB rC rM rN e12 e13 e15 e16 a1 lg H h12 lM h15 h16 h1 hlg hq;obtain⟨c,h3⟩:=SJ z h1;obtain⟨lg,hlk,rfl⟩:∃ k:Nat,k<=1/\lg=k:=by
  rcases hlg with h|h
  ·exact⟨0,(),h⟩
  ·exact⟨1,(),h⟩
 have mB:∀ q,q∈L0 BX b->q∈(RD,((6,99):Tag),PO.dict (0,0) [("B",.ref (rB 0)),("C",.ref (rC 0)),("M",.ref (rM 0)),("N",.ref (rN 0))])::(gM rN e16 .none 16++(gM rM e15 .none 15++(gM rC e13 (.str "B" 0) 13++(gM rB e12 .none 12++L0 BX b)))):=λq h=>.tail _ (fq _ (fq _ (fq _ (fq _ h))));have hB:=mB _ (.head _)
 have hr:∀ i∈jY,∀ k,k<6->(xQ rB rC rM rN i k,((k,i):Tag),cG (xQ e12 e13 e15 e16 i) (xQ rB rC rM rN i) (λ_=>0) Fi i k)∈(RD,((6,99):Tag),PO.dict (0,0) [("B",.ref (rB 0)),("C",.ref (rC 0)),("M",.ref (rM 0)),("N",.ref (rN 0))])::(gM rN e16 .none 16++(gM rM e15 .none 15++(gM rC e13 (.str "B" 0) 13++(gM rB e12 .none 12++L0 BX b)))):=
  uM (λk hk=>.tail _ (fq _ (fq _ (fq _ (fh _ (qt (i:=12) k hk))))))
   (λk hk=>.tail _ (fq _ (fq _ (fh _ (qt (i:=13) k hk)))))
   (λk hk=>.tail _ (fq _ (fh _ (qt (i:=15) k hk))))
   (λk hk=>.tail _ (fh _ (qt (i:=16) k hk)))
 have ht:∀ i∈jY,z.A.ad i=some (xQ e12 e13 e15 e16 i):=uM h12 lM h15 h16
 have htb:∀ t,t=1122\/t=1164->(t,((8,t):Tag),PO.tab [])∈(RD,((6,99):Tag),PO.dict (0,0) [("B",.ref (rB 0)),("C",.ref (rC 0)),("M",.ref (rM 0)),("N",.ref (rN 0))])::(gM rN e16 .none 16++(gM rM e15 .none 15++(gM rC e13 (.str "B" 0) 13++(gM rB e12 .none 12++L0 BX b)))):=λt h=>by
  rcases h with rfl|rfl
  ·exact mB _ (.tail _ (.head _))
  ·exact mB _ (.tail _ (.tail _ (.head _)))
 let y0:=Y.start (z:=z) (r:=xQ rB rC rM rN) (th:=xQ e12 e13 e15 e16) H hB (.head _) hr ht htb;have I0:Inv y0:=Inv.start H hB (.head _) hr ht htb h1 h3;refine⟨bl,λea hea=>⟨bl,λen hen=>⟨bl,λtt htt=>nR (aA ..) ⟨rfl,?_⟩⟩⟩⟩;let y1:=y0.go (y0.z.new ea (.list (0,0) zP) hea) ((Le.refl y0.z).new _ hea);have n1:Nx 0 y0 y1:=(Nx.refl I0).go _ _;have ka1:Kept y1 ea zP:=⟨aA ..,y0.z.un hea,y0.w5 hea⟩
 let y2:=y1.go (y1.z.new en (.list (0,0) (fQ [13,13,12,15])) hen) ((Le.refl y1.z).new _ hen);have n2:Nx 0 y1 y2:=(Nx.refl n1.I).go _ _;have kn2:Kept y2 en (fQ [13,13,12,15]):=⟨aA ..,y1.z.un hen,y1.w5 hen⟩
 let y3:=y2.go (y2.z.new tt (.tup [.ref ea,.ref en]) htt) ((Le.refl y2.z).new _ htt);have n3:Nx 0 y2 y3:=(Nx.refl n2.I).go _ _;have hs:∀ i∈([13,13,12,15]:List Nat),i∈y3.x.ids/\(i=12\/i=13\/i=14\/i=15):=(by decide +kernel:∀ i∈([13,13,12,15]:List Nat),i∈jY/\(i=12\/i=13\/i=14\/i=15))
 have T:Turn y3 0 (2+2*lg) ea en [13,13,12,15]:=⟨n3.I,(by decide +kernel:13∈jY),λ_=>rfl,eu _,(ka1.of n2.f).of n3.f,kn2.of n3.f,hs,(),()⟩
 have fin:=λ{N':NP} (hN:∀ l (y:Y w BX RD),N' l y.z.P)=>turns (m:=m) (X:=X) (Q:=Q) (sc:=sc) (ba:=e12) (ea:=ea) hlk (N:=N') hN (4+6*lg) 0 y3 en _ none none none none (by omega) T;rcases (by omega:lg=0\/lg=1) with rfl|rfl
 ·exact⟨(),⟨(),()⟩,fin λ_ y=>hq _ λt ht=>(y.L.tb t ht).imp λ_ q=>q.1⟩
 ·exact⟨(),⟨(),()⟩,fin λ_ y=>hq _ λt ht=>(y.L.tb t ht).imp λ_ q=>q.1⟩
section
variable{m:Nat}{X:XP}{Q:VQ}{w:Wc}{C:Cont}
theorem QW:∀ c:Bool,(if c=true then 1 else 0:Int)=0\/(if c=true then 1 else 0:Int)=1:=by decide
theorem Qs{P0:PH}(hs:JY)(h1:P0 1122=some (.tab []))(h2:P0 1164=some (.tab []))(hq:∀ P',Nv P'->Q (.bool true) P'):wpS (m+40) (List.replicate 27 false) r7 (some (.ref vQ)::List.replicate 26 none) P0 X (λ_ P'=>Q .none P') Q:=by
 refine(Eg (m:=m+39) hs λP1 f b p1 f1 hf ns=>Tu (Na hs ns) (by rw[ef];exact hs.2) λnd hnd=>(GO (m:=m+8) (aA ..) (λw z a1 ha1 fr=>⟨bl,λtt htt=>nR (aA ..) ⟨rfl,?_⟩⟩)))
 have H:fY (z.new tt (.tup [.ref f,.int (if decide ((1:Int)<((IK.map λi=>Value.int i 0).length:Int))=true then 1 else 0) 0,.ref w.W]) htt) (L0 f b):=by
  have q:∀ c o,P1 c=some o->o.bR=false->z.P c=some o/\o.bR=false/\z.h c=none:=λc o h no=>have n:c≠nd:=λe=>by rw[e,hnd] at h;cases h
   have r:=fr c o (aI h hnd) no n;⟨r.1,no,r.2⟩
  refine fY.le (z:=z) ⟨λx hx=>?_,?_⟩ ((Le.refl z).new _ htt)
  ·rcases ku hx with h|hx
   ·rw[h];exact q _ _ hf rfl
   rcases ku hx with h|hx
   ·rw[h];exact q _ _ (p1 _ _ h1) rfl
   ·rw[cu hx];exact q _ _ (p1 _ _ h2) rfl
  ·have n1:f≠1122:=λe=>by rw[e,h1] at f1;cases f1
   have n2:f≠1164:=λe=>by rw[e,h2] at f1;cases f1
   exact dh ⟨λh=>by
    rcases ku h with h|h
    ·exact n1 h
    ·exact n2 (cu h),()⟩
 exact NG (z:=z.new tt _ htt) ha1 H λz' RD rB rC rM rN e12 e13 e15 e16 H' x1 x2 x3 x4 x5=>KR EM _ _ _ _ _ _ _ _ _ _ _ _ _ _ _ _ _ _ _ _ H' x1 x2 x3 x4 x5 (QW _) hq
end
noncomputable def HD(o:Obj):Array Va:=match o.data with
 | .fields vs=>vs
 | _=>#[]
theorem Rn(y:YP wd aF.heap)(g:aF.heap.Ns mainGlobals mg):mg "__builtins__"=some (.ref 4):=by
 obtain⟨o,es,ep,e,hd,_,hm⟩:=g;have q:=rX y () (HK wd.params);rw[q] at e;cases e;rw[<-hm];have:Data.dict (jG (HA.qS wd.params 121 "law_nz0059_01" 1876)).toArray (Eu (HA.qS wd.params 121 "law_nz0059_01" 1876))=Data.dict es ep:=hd
 injection this with h1 _
 rw[<-h1];exact(IL wd.params).2
theorem MT(y:YP wd aF.heap)(g:aF.heap.Ns mainGlobals mg):PZ (hideAll aF.heap [1122,1164]) mg:=by
 have X:∀{a o},((Kf wd.params).lookup a=some o)->(hideAll aF.heap [1122,1164]).get? a=some o:=λh=>have q:=QF h;br _ (y _ _ q.1) λm=>by
  rcases ku m with e|e
  ·exact q.2.1 e
  ·exact q.2.2 (cu e)
 refine⟨λk=>?_,4,_,Rn y g,(),br _ (rX y () (N8 _)) (),rfl,rfl,rfl⟩;unfold eZ dO;split
 ·exact⟨_,HD (jA wd.params 1126),"/claim/cut.py",1966,3,0,true,181,0,X (show _=some (jA wd.params 1126) by kernel_rfl),by kernel_rfl,by kernel_rfl,by kernel_rfl,by kernel_rfl,by kernel_rfl,by kernel_rfl,by kernel_rfl,by kernel_rfl,()⟩
 ·exact⟨_,HD (jA wd.params 1166),"/claim/cut.py",2032,3,0,true,181,0,X (show _=some (jA wd.params 1166) by kernel_rfl),by kernel_rfl,by kernel_rfl,by kernel_rfl,by kernel_rfl,by kernel_rfl,by kernel_rfl,by kernel_rfl,by kernel_rfl,()⟩
theorem KS(G:Ground qv jS qd.records (XL qv []) wd sA mg mb aF.heap)(y:YP wd aF.heap)(hg:aF.gens=#[])(hns:IK.length<64)
  (hs:∃ (vs:List Va) (n:Nat),aF.heap.get? vQ=some (listOf vs.toArray n)/\vs.map ab=IK.map λi=>.int i 0):
  codeAny (MM wd) callerA (.call (.ref 1174) ⟨[.ref vQ],[]⟩) (λr s'=>r=.ok (.ret (.bool true))/\OldK aF.heap s'.heap/\s'.os=aF.os/\s'.gens=#[]) aF:=by
 obtain⟨st1,sn,st2⟩:=L7 y hs;have ok:JY:=⟨st1,gy hns ()⟩
 have fn:zM K 1174 (fnAt wd.params 1174) (jR wd.params 1174):=MI wd.params uV tC;have stay:(hideAll aF.heap [1122,1164]).StaysIn aF.heap:=λb o e=>of_hideAll _ e
 have XK:K.In (hideAll aF.heap [1122,1164]):=λa o h=>have q:=QF h;br _ (y _ _ q.1) λm=>by
  rcases ku m with e|e
  ·exact q.2.1 e
  ·exact q.2.2 (cu e)
 have T:=topRead_of G.T;obtain⟨binds,b1,b2,b3⟩:∃ binds,BindsTo aF (fnAt wd.params 1174) ⟨[.ref vQ],[]⟩ binds/\oH (fnAt wd.params 1174).scope binds/\fP (fnAt wd.params 1174).scope binds=some (.ref vQ)::List.replicate 26 none:=CA (JG wd.params uV tC [.ref vQ] rfl) (λa o h=>stay _ _ (XK a o h):K.In aF.heap);obtain⟨o,ho,hd⟩:=fn.at_;obtain⟨cc,oc,vs,t,e1,e2,e3,e4⟩:=fn.code;have nc:∀ x∈(fnAt wd.params 1174).scope.names,x.2≠.cell:=λx hx=>by simpa using dz EK x hx
 have hl:∀ x∈binds,(fnAt wd.params 1174).scope.names.lookup x.1=some .local:=λx hx=>(b2.kd x hx).resolve_right λq=>nc _ (mem_of_lookup q) rfl;have kin:∀{a o},K.lookup a=some o->aF.heap.get? a=some o:=λh=>stay _ _ (XK _ _ h);refine codeAny_call_function ⋯ (kin ho) hd fn.co fn.gen fn.body ⟨cc,oc,vs,t,e1,kin e2,e3,e4⟩ (b1 _ _ _ _ ?_);refine wpAny_newFunctionEnv nc hl λh' hn hsb=>?_;have kp:∀ b o,aF.heap.get? b=some o->h'.get? b=some o:=λb o e=>(hsb.2 b (gq (fy e))).trans (ek _ e);refine⟨T.nolimit.keeps kp,codeAny_func ?_⟩;generalize he:newEnv _ _ _ _ _ _ _ _ _=env;have hsc:env.scope=(fnAt wd.params 1174).scope:=by rw[<-he];rfl
 have hlo:env.locals=aF.heap.objs.size:=by rw[<-he];rfl
 have hce:env.cells=[]:=by rw[<-he];exact AD
 have hfr:env.frame=some env.locals:=by rw[<-he];rfl
 have hcn:∀ x a,env.cells.lookup x=some a->False:=λx a h=>by rw[hce] at h;cases h
 have hnl:∀ x,env.scope.names.lookup x≠some .cell:=λx h=>nc _ (mem_of_lookup (hsc▸h)) rfl;let c:Fx:=⟨env,env,callerA.deeper env,hideAll aF.heap [1122,1164],mg,mb,[],λj=>none,aF.os⟩
 have none_L:∀{a},aF.heap.objs.size<=a->(hideAll aF.heap [1122,1164]).get? a=none:=λ{a} h=>by
  cases q:(hideAll aF.heap [1122,1164]).get? a with
  | none=>rfl
  | some o=>exact absurd (fy (stay _ _ q)) (Nat.not_lt.mpr h)
 have O:bM c:=by
  refine⟨rfl,rfl,by rw[hsc];exact fn.knd,by show env.globals=_;rw[<-he];exact fn.qS,by show env.builtins=_;rw[<-he];exact fn.JT,by rw[hsc];exact fn.nd,rfl,λj j j j j=>rfl,λx y a h=>(hcn x a h).elim,by rw[hsc,fn.knd];decide,XK,⟨yV T.g (),yV T.b (),T.nolimit.imp λmc h=>⟨yV h.1 (),h.2⟩,T.builtins,T.free⟩,⟨_,br _ (rX y () (N6 _)) ()⟩,st2,λe h=>(by cases h),λx h=>absurd h (hnl x),hfr,λk hk=>?_,?_,MT y T.g⟩
  ·rw[hsc] at hk
   have q:=fn.NR k hk;refine⟨by show env.code=_;rw[<-he];exact q.1,?_⟩;show env.qual++_=_;rw[<-he];exact q.2
  ·show(hideAll aF.heap [1122,1164]).objs.size<=env.locals
   rw[hideAll_size,hlo];exact f7 _
 have Lg:(cH (λj=>none) env.locals (dH λx=>binds.reverse.lookup x)) env.locals=some (dH λx=>binds.reverse.lookup x):=aJ ..
 have Ln:∀{a p},(cH (λj=>none) env.locals (dH λx=>binds.reverse.lookup x)) a=some p->a=env.locals/\p=dH λx=>binds.reverse.lookup x:=λ{a p} h=>by
  by_cases q:a=env.locals
  ·subst q;rw[aJ] at h;cases h;exact⟨rfl,rfl⟩
  ·rw[aE q] at h;cases h
 have tl:∀{a},a∈([1122,1164]:List Ad)->a<aF.heap.objs.size:=λh=>fy (zu y h)
 have S:St c (fP (fnAt wd.params 1174).scope binds) (upd (upd (λj=>none) 1122 (.tab [])) 1164 (.tab [])) { aF with heap:=h',toks:=aF.toks+binds.length }:=by
  refine⟨λx=>binds.reverse.lookup x,cH (λj=>none) env.locals (dH λx=>binds.reverse.lookup x),λj=>0,λa p h=>(by cases h),Lg,⟨_,_,hfr,Lg⟩,λx a h=>(hcn x a h).elim,λa p h=>.inr (.inl ((Ln h).2▸dU)),?_,Ii hsc fn.nd b2.nd hl,hg,rfl⟩;refine⟨λb o e=>kp _ _ (stay _ _ e),λa p h=>?_,λa o h=>?_,λa o h hd=>?_,λa o h hd=>?_,λa o b o' h hd=>?_,λa p h=>?_,λb p h a o h' hd=>?_⟩
  ·obtain⟨rfl,rfl⟩:=Ln h
   refine .of (none_L (gi hlo.symm)) ?_;rw[hlo];exact iZ hn
  ·obtain⟨rfl,q⟩:=qE h
   exact⟨hideAll_none _ q,kp _ _ (zu y q)⟩
  ·rw[(qE h).1] at hd;cases hd
  ·rw[(qE h).1] at hd;cases hd
  ·rw[(qE h).1] at hd;cases hd
  ·obtain⟨rfl,rfl⟩:=Ln h
   cases q:upd (upd (λj=>none) 1122 (PO.tab [])) 1164 (.tab []) env.locals with
   | none=>rfl
   | some o=>have:=tl (qE q).2;rw[hlo] at this;exact absurd this (ig _)
  ·rw[(qE h').1] at hd;cases hd
 have Rm:bP 40 c.A:=⟨(by decide +kernel:callerA.depth+1+40<=990),(by decide +kernel:callerA.units+3+10*40<=9890)⟩
 have B:=xX (qb wd.params) 50 (jR wd.params 1174) c (λj j=>False) 40 rfl Rm;have hc:jF K 50 env.scope.names (jR wd.params 1174)=r7:=by rw[hsc];exact List.map_inj_left.mp (JH wd.params) uV tC
 have hcl:aK env.scope.names=List.replicate 27 false:=by rw[hsc];exact List.map_inj_left.mp (R8 wd.params) uV tC
 have W:=Qs (m:=0) (X:=λj j=>False) (Q:=λv P'=>v=.bool true/\Nv P') (P0:=upd (upd (λj=>none) 1122 (.tab [])) 1164 (.tab [])) ok rfl rfl λP' h=>⟨rfl,h⟩
 refine ak (B c _ _ _ _ _ rfl rfl rfl O S (by show wpS 40 (aK env.scope.names) (jF K 50 env.scope.names (jR wd.params 1174)) _ _ _ _ _;rw[hc,hcl,b3];exact W)) (λfl s'' h=>?_) λev s'' h=>?_
 ·cases fl with
  | next=>obtain⟨_,_,_,q,_⟩:=h;cases q
  | brk=>exact ck h
  | cont=>exact ck h
  | ret v=>
   obtain⟨l',P',⟨m',G',D',S'⟩,hv,tb⟩:=h
   have tt:∀{a},a∈([1122,1164]:List Ad)->∃ es,s''.heap.get? a=some (tabObj (zb es).toArray):=λ{a} h=>by
    have h:a=1122\/a=1164:=by simpa using h
    obtain⟨es,q⟩:=tb a h;exact⟨es,(S'.sat.rel a _ q).2⟩
   have ct:∀{a},a∈([1122,1164]:List Ad)->isCodeTable aF.heap a:=λ{a} h=>by
    have h:a=1122\/a=1164:=by simpa using h
    have key:∀ k,isCodeTable aF.heap (dO k):=λk=>by obtain⟨o,vs,_,_,_,_,_,_,_,q1,q2,q3,q4,_⟩:=(MT y T.g).GX k;exact⟨eZ k,o,vs,stay _ _ q1,q2,q3,q4⟩
    rcases h with rfl|rfl
    ·exact key 0
    ·exact key 900000
   refine⟨by rw[J1 hv],⟨λb o e=>?_,λb o e=>?_⟩,S'.os,S'.gens⟩
   ·by_cases hb:b∈([1122,1164]:List Ad)
    ·obtain⟨es,q⟩:=tt hb
     rw[zu y hb] at e;cases e;exact .inr (.inl ⟨ct hb,rfl,#[],(zb es).toArray,rfl,by rw[q];simp [tabObj]⟩)
    ·exact .inl (S'.sat.stay _ _ (br _ e hb))
   ·by_cases hb:b∈([1122,1164]:List Ad)
    ·obtain⟨es,q⟩:=tt hb
     exact⟨_,q⟩
    ·exact⟨o,S'.sat.stay _ _ (br _ e hb)⟩
 ·obtain⟨_,_,_,_,_,_,_,_,_,_,q⟩:=h
  exact ck q
theorem Ca{R:WRecords}:∀{xs:List WData},WShape.hasItems R xs .int=true->∃ ns:List Int,xs=ns.map .int:=by
 intro rr;induction rr with
 | nil=>exactλq=>⟨[],rfl⟩
 | cons d xs ih=>intro h;have h:WShape.has R d .int=true/\WShape.hasItems R xs .int=true:=dm h;obtain⟨i,rfl⟩:=hasW_int h.1;obtain⟨ns,rfl⟩:=ih h.2;exact⟨i::ns,rfl⟩
noncomputable def Li(v:Va):WData->Prop
 | .int i=>ab v=.int i 0
 | _=>True
theorem PJ{P:Params}{h:Heap}{v:Va}{d:WData}(x:Well P h v d):Li v d:=by induction x using PySem.W.Well.casesOn<;>first|exact True.intro|exact rfl
noncomputable def Ll(P:Params)(h:Heap)(v:Va):WData->Prop
 | .list xs=>∃ a vs,v=.ref a/\h.get? a=some { cls:=.type "list",data:=.seq vs.toArray }/\WellAll P h vs xs
 | _=>True
theorem PK{P:Params}{h:Heap}{v:Va}{d:WData}(x:Well P h v d):Ll P h v d:=by induction x using PySem.W.Well.casesOn<;>first|exact True.intro|exact⟨_,_,rfl,‹_›,‹_›⟩
noncomputable def Ln(vs:List Va):List WData->Prop
 | []=>vs=[]
 | _=>True
theorem JO{P:Params}{h:Heap}{vs:List Va}{d:List WData}(x:WellAll P h vs d):Ln vs d:=by induction x using PySem.W.WellAll.casesOn<;>first|exact True.intro|exact rfl
theorem Gh{P:Params}{h:Heap}{ns:List Int}:∀{vs:List Va},WellAll P h vs (ns.map .int)->vs.map ab=ns.map λi=>.int i 0:=by
 induction ns with
 | nil=>exactλx=>aj (List.map ab) (JO x:_=[])
 | cons i ns ih=>intro vs x;obtain⟨v,vs',e,a,b⟩:=wellAll_cons_inv x;rw[e];show ab v::vs'.map ab=.int i 0::ns.map λi=>.int i 0;rw[show ab v=.int i 0 from PJ a,ih b]
theorem LC{xs:List WData}(h:qd.claim.pre [.list xs]=true):xs.length<64:=by
 have h:=(pre_splitW h).2;have e:qd.pre.holds qd.records { args:=[.list xs] }=WTm.holds qd.records (.and (.not (.lit (.bool (decide ((63:Int)<(xs.length:Int)))))) (.lit (.bool true))) { args:=[] }:=by kernel_rfl
 have g:∀ b,WTm.holds qd.records (.and (.not (.lit (.bool b))) (.lit (.bool true))) { args:=[] }=!b:=λb=>by induction b<;>rfl
 have h:=(g _).symm.trans (e.symm.trans h);have h:¬ (63:Int)<(xs.length:Int):=of_decide_eq_false ((i6 _).mp h);lia
theorem script{P:Params}{h:Heap}{args:List WData}{vals:List Va}(hp:qd.claim.pre args=true)(hw:WellAll P h vals args):∃ (sc:Ad) (ns:List Int),vals=[.ref sc]/\ns.length<64/\∃ (vs:List Va) (n:Nat),h.get? sc=some (listOf vs.toArray n)/\vs.map ab=ns.map λi=>.int i 0:=by
 obtain⟨d,r,e1,h1,h2⟩:=hasAllW_cons (pre_splitW hp).1;have e2:=hasAllW_nil h2;obtain⟨xs,e3,h3⟩:=hasW_list h1;obtain⟨ns,e4⟩:=Ca h3;have e:args=[.list (ns.map .int)]:=by rw[e1,e2,e3,e4]
 subst e;obtain⟨v,vs',e5,w1,w2⟩:=wellAll_cons_inv hw;obtain⟨sc,vs,e6,g,wa⟩:=PK w1;exact⟨sc,ns,by rw[e5,e6,(JO w2:_=[])],(ef (as:=ns) WData.int)▸LC hp,vs,0,g,Gh wa⟩
theorem LB(args:List WData):qd.claim.post args (.bool true) args=true:=by kernel_rfl
theorem OA{w:World}{sA:Sh}{mg mb:Str->Op Va}{h:Heap}(G:Ground qv jS qd.records (XL qv []) w sA mg mb h)(y:YP w h):mg "law"=some (.ref 1174):=by obtain⟨o,es,ep,e,hd,_,hm⟩:=G.T.g;have q:=(y _ _ (HJ () (HK w.params))).symm.trans e;have q:Data.dict (jG (HA.qS w.params 121 "law_nz0059_01" 1876)).toArray (Eu (HA.qS w.params 121 "law_nz0059_01" 1876))=Data.dict es ep:=(aj Obj.data (kr q)).trans hd;rw[<-hm,<-(Data.dict.inj q).1];exact(IL w.params).1
theorem walk:WalkO qv jS (XL qv []) YP qd Ox [] (λf vs=>PySem.call f vs):=by
 intro w sA aF mg mb G y a o pm cd doc dV kV _ _ _ _ hm hg args vals as hpre _ _ hw hno;refine Classical.byContradiction λng=>?_;obtain⟨sc,ns,e,hl,hz⟩:=script hpre hw;subst e;have ea:a=1174:=Value.ref.inj (kr (hm.symm.trans (OA G y)));subst ea;have bad:∃ x:World × Ad × List Int,T8 x.1 x.2.1 x.2.2:=⟨(w,sc,ns),sA,aF,mg,mb,_,G,y,hg,hpre,hl,hz,ng⟩
 obtain⟨sA,aF,mg,mb,args,G,y,hg,hpre,hl,hs,ng⟩:=Classical.epsilon_spec bad;refine ng (wpAny_call (codeAny_mono (KS G y hg hl hs) λr s' h=>?_));obtain⟨rfl,h1,h2,h3⟩:=h;refine⟨.inl ⟨_,.bool true,[],rfl,λq=>rfl,.bool true,?_,λq=>⟨.nil,λq h=>nomatch h⟩⟩,h1,h2,.of_eq h3⟩;exact LB args
theorem EL:PySem.Challenge.rw_nz0059_01.Holds:=head walk
end Mine
theorem PySem.Challenge.cw_nz0059_01_holds : PySem.Challenge.rw_nz0059_01.Holds :=
 Mine.EL
