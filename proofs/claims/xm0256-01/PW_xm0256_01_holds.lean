import PyProof.Rows.All
import Wide.All
import OpenK.AllK
import Wide.FinOn
import Lean
import PySem.Challenge.RW_xm0256_01
set_option Elab.async false
set_option maxRecDepth 100000
set_option maxHeartbeats 0
set_option linter.all false
set_option genInjectivity false
set_option genSizeOf false
noncomputable section
namespace Mine
open PySem PySem.W PyProof.Rows PySem.SeqAt
open PySem.W.Z (ltB leB eqB)
variable{m:Str→Option Value}{X:List (Addr×Obj)}{d n ow fo:Nat}{Q:Value→Shared→Prop}{ks':List (Bool×Int)}{as':List Addr}{P:Params}{j:Bool}{prog:Program}{zq:List Value}
abbrev xpZ:=PySem.Expr
theorem fcZ{α:Type}{p:α→Prop}{a:α}{l:List α}(h:p a∧∀ x∈l,p x):∀ x∈a::l,p x:=List.forall_mem_cons.mpr h
theorem oiZ{α:Type}{a b:α}(h:some a=some b):a=b:=Option.some.inj h
theorem mrZ{α:Type}{b:α}{t:List α}(s:List α)(h:b∈t):b∈s++t:=List.mem_append_right s h
theorem mlZ{α:Type}{a:α}{s:List α}(t:List α)(h:a∈s):a∈s++t:=List.mem_append_left t h
theorem prZ{α:Type}{l:List α}:l<+:l:=List.prefix_rfl
theorem lbZ{n m:Nat}(h:Nat.ble n m=true):n≤m:=Nat.le_of_ble_eq_true h
theorem blZ{n m:Nat}(h:n≤m):Nat.ble n m=true:=Nat.ble_eq_true_of_le h
theorem ebZ{n m:Nat}(h:Nat.beq n m=true):n=m:=Nat.eq_of_beq_eq_true h
theorem maZ{α:Type}{a:α}{s t:List α}(h:a∈s++t):a∈s∨a∈t:=List.mem_append.mp h
theorem mgZ{m n:Nat}(h:m<n):m∈List.range n:=List.mem_range.mpr h
theorem moZ{α:Type}{l:List α}{i:Nat}{a:α}(h:l[i]?=some a):a∈l:=List.mem_of_getElem? h
theorem msZ{α:Type}{a b:α}(h:a∈[b]):a=b:=List.mem_singleton.mp h
theorem llZ{a b c:Nat}(h:a<b)(g:b≤c):a<c:=Nat.lt_of_lt_of_le h g
theorem mcZ{α:Type}{a b:α}{l:List α}(h:a∈b::l):a=b∨a∈l:=List.mem_cons.mp h
theorem lrZ(n:Nat):n≤n:=Nat.le_refl n
theorem paZ{α:Type}(l s:List α):l<+:l++s:=List.prefix_append l s
theorem bfZ{α:Type}[BEq α][LawfulBEq α]{a b:α}(h:a≠b):(a==b)=false:=beq_eq_false_iff_ne.mpr h
theorem mtZ{α:Type}{a:α}{l:List α}{i:Nat}(h:a∈l.take i):a∈l:=List.mem_of_mem_take h
theorem ltZ{a b c:Nat}(h:a≤b)(g:b<c):a<c:=Nat.lt_of_le_of_lt h g
theorem leZ{a b c:Nat}(h:a≤b)(g:b≤c):a≤c:=Nat.le_trans h g
theorem abZ{x y:Bool}(h:(x&&y)=true):x=true∧y=true:=Bool.and_eq_true_iff.mp h
theorem yaZ.{u}:type_of% @List.getElem?_append_left.{u}:=@List.getElem?_append_left.{u}
theorem ybZ.{u}:type_of% @List.getElem?_eq_some_iff.{u}:=@List.getElem?_eq_some_iff.{u}
theorem ycZ.{u}:type_of% @List.getElem?_take_of_lt.{u}:=@List.getElem?_take_of_lt.{u}
theorem ydZ.{u,v}:type_of% @List.getElem?_map.{u,v}:=@List.getElem?_map.{u,v}
theorem yeZ.{u}:type_of% @List.length_take.{u}:=@List.length_take.{u}
theorem yfZ.{u}:type_of% @List.getElem?_append_right.{u}:=@List.getElem?_append_right.{u}
theorem ygZ.{u}:type_of% @List.not_mem_nil.{u}:=@List.not_mem_nil.{u}
theorem yhZ.{u}:type_of% @List.mem_cons.{u}:=@List.mem_cons.{u}
theorem yiZ.{u}:type_of% @List.getElem?_eq_getElem.{u}:=@List.getElem?_eq_getElem.{u}
theorem yjZ.{u}:type_of% @List.getElem?_eq_none.{u}:=@List.getElem?_eq_none.{u}
theorem ykZ.{u}:type_of% @List.all_eq_true.{u}:=@List.all_eq_true.{u}
theorem ylZ.{u,v}:type_of% @List.lookup_cons.{u,v}:=@List.lookup_cons.{u,v}
theorem ymZ.{u}:type_of% @List.size_toArray.{u}:=@List.size_toArray.{u}
theorem ynZ.{u}:type_of% @List.length_append.{u}:=@List.length_append.{u}
theorem yoZ.{u}:type_of% @List.mem_append.{u}:=@List.mem_append.{u}
theorem ypZ.{u}:type_of% @List.getElem?_set_ne.{u}:=@List.getElem?_set_ne.{u}
theorem yqZ.{u,v}:type_of% @List.map_take.{u,v}:=@List.map_take.{u,v}
theorem yrZ.{u}:type_of% @List.take_append_drop.{u}:=@List.take_append_drop.{u}
theorem ysZ.{u,v}:type_of% @Option.map_eq_some_iff.{u,v}:=@Option.map_eq_some_iff.{u,v}
theorem ytZ:type_of% @PySem.W.Fast.te10110043849684766642:=@PySem.W.Fast.te10110043849684766642
theorem yuZ:type_of% @PySem.W.Fast.te14364793385576792824:=@PySem.W.Fast.te14364793385576792824
theorem yvZ:type_of% @PySem.W.Fast.te17119622794617984870:=@PySem.W.Fast.te17119622794617984870
theorem ywZ:type_of% @PySem.W.Fast.te8326940854005059898:=@PySem.W.Fast.te8326940854005059898
noncomputable abbrev sO(s:String):Str:=Str.ofString s
noncomputable abbrev pg:Program:=PySem.Challenge.pw_xm0256_01
noncomputable abbrev ss(x:String)(t:Nat):Value:=.str (sO x) t
noncomputable abbrev ii(x:Int)(t:Nat):Value:=.int x t
noncomputable abbrev rr(a:Nat):Value:=.ref a
def en(P:Params)(x:String)(t:Nat)(v:Value):DictEntry:=⟨PyData.keyHash P (sO x),.str (sO x) t,v⟩
noncomputable def st(i:Nat):Stmt:=(pg.main.body[i]?).getD (.Pass ⟨0,0,0,0⟩)
noncomputable def sm(i j:Nat):Stmt:=match st i with
 | .ClassDef _ _ _ b _ _ _ _ _ _ _=>(b[j]?).getD (.Pass ⟨0,0,0,0⟩)
 |x=>x
noncomputable def fA:Stmt→Arguments
 | .FunctionDef _ a _ _ _ _ _ _ _ _=>a
 |_=>⟨[],[],none,[],[],none,[]⟩
noncomputable def fB:Stmt→List Stmt
 | .FunctionDef _ _ b _ _ _ _ _ _ _=>b
 |_=>[]
noncomputable def fS:Stmt→Scope
 | .FunctionDef _ _ _ _ _ _ s _ _ _=>s
 |_=>⟨.function,[],false,false,[]⟩
def fd(n q:String)(s:Stmt)(g:Nat)(d k doc pm:Value)(an:Option Nat)(c ct:Value)(bi:Nat):FuncData:=⟨sO n,sO q,fA s,.stmts (fB s),fS s,g,[],d,k,doc,pm,an,c,ct,bi⟩
def cd(n:String)(b m:List Value)(ns:Nat)(q:String)(hd:Bool)(sub:List Value)(ab:Bool)(co:Option Bool)(de:Bool):ClassData:=⟨sO n,b,m,ns,sO q,hd,[],sub,ab,co,de⟩
noncomputable abbrev N(o:Obj)(l r:BT):BT:=.node o l r
noncomputable abbrev Z:BT:=.nil
noncomputable abbrev o0(P:Params):Obj:=boot_o_0 P
noncomputable abbrev o1(P:Params):Obj:=boot_o_1 P
noncomputable abbrev o4(P:Params):Obj:=boot_o_4 P
noncomputable abbrev o5(P:Params):Obj:=boot_o_5 P
noncomputable abbrev o6(P:Params):Obj:=boot_o_6 P
noncomputable abbrev o7(P:Params):Obj:=boot_o_7 P
noncomputable abbrev o8(P:Params):Obj:=boot_o_8 P
noncomputable abbrev o9(P:Params):Obj:=boot_o_9 P
noncomputable abbrev YZ(P:Params):Obj:=boot_o_10 P
def jA:=ss "__main__" 164
def jB:=ss "framerune.faults" 194
def jC:=ss "framerune.kinds" 251
def jD:=ss "framerune.store" 656
def jE:=ss "framerune.kindline" 916
def jF:=ss "framerune.access" 1030
def jG:=ss "framerune.csmember" 1148
def jH:=ss "framerune.kindrel" 1212
def jI:=ss "framerune.csnodes" 1501
def jJ:=ss "framerune.csbound" 1555
def jK:=ss "framerune.cscore" 1595
def jL:=ss "framerune.bounds" 1684
def jM:=ss "framerune.vhost" 1794
def jN:=ss "law_xm0256_01" 1804
noncomputable def tZ(l:List Value):Obj:=⟨.type "tuple",none,.seq l.toArray 0,#[]⟩
noncomputable def fZ(l:List Value):Obj:=⟨.none,none,.fields l.toArray,#[]⟩
def EZ:=tZ []
def FZ:=fZ []
noncomputable def dZ(l:List DictEntry)(n:Nat):Obj:=⟨.type "dict",none,.dict l.toArray n,#[]⟩
noncomputable def mZ(a b:Nat)(v:Value):Obj:=⟨.type "frame",none,.plain,#[some (rr a),some (rr 3),some (rr b),none,some v,none,some (rr 0)]⟩
def uZ(n q:String)(s:Stmt)(m:Value)(c:Nat):Obj:=⟨.type "function",none,.func (fd n q s 3 .none .none .none m none (rr c) .none 0),#[]⟩
def rZ(n q:String)(s:Stmt):Obj:=⟨.none,none,.func (fd n q s 0 .none .none .none .none none .none .none 0),#[]⟩
def cZ(n q:String)(t:Nat)(l a f:Int)(b:Nat)(o:Bool)(x y z:Value)(e:Int)(e1:Nat):Obj:=⟨.type "code",none,.fields #[ss n t,ss q (Nat.add t 1),ss "/claim/cut.py" (Nat.add t 2),ii l 0,ii a 0,ii 0 0,ii 0 0,ii f 0,rr b,.bool o,ii 181 0,rr (Nat.add b 1),.none,x,y,z,ii e 0,ii l 0,ss "/claim/cut.py" e1],#[]⟩
def kZ(n q:String)(t:Nat)(l a:Int)(b:Nat)(e:Int)(e1:Nat):Obj:=cZ n q t l a 3 b true (rr (Nat.add b 2)) (rr (Nat.add b 3)) (rr (Nat.add b 4)) e e1
def lZ(n q:String)(t:Nat)(l:Int)(b:Nat)(e:Int)(e1:Nat):Obj:=cZ n q t l 0 0 b false .none .none .none e e1
def uW(n:String):=uZ n n
def rW(n:String):=rZ n n
def kW(n:String):=kZ n n
def Y0:=lZ "<module>" "<module>" 182 1 11 185 186
def Y1:=mZ 13 3 jA
def Y2:=tZ [ss "k" 190]
def Y3:=rW "_wall" (st 0)
def UZ:=kW "_wall" 187 1 1 15 191 192
def U0:=uW "_wall" (st 0) jA 20
def Y4:=tZ [.type "Exception"]
noncomputable def Y5:Obj:=⟨.type "builtin_function_or_method",none,.fields (#[.builtin "type.__prepare__",.type "type"]),#[]⟩
def U1(P:Params):Obj:=dZ [en P "__module__" 211 jB,en P "__qualname__" 213 (ss "RuneError" 212),en P "__firstlineno__" 215 (ii 9 214),en P "__init__" 224 (rr 35),en P "__static_attributes__" 227 (rr 36)] 5
def Y6:=fZ [ii 11 0,ii 4 0,rr 34]
def U2:=lZ "RuneError" "RuneError" 206 9 25 209 210
def Y7:=mZ 27 24 jB
def Y8:=tZ [ss "self" 219,ss "code" 220,ss "at" 221]
def Y9:=rZ "__init__" "RuneError.__init__" (sm 6 0)
def U3:=kZ "__init__" "RuneError.__init__" 216 11 3 29 222 223
def U4:=uZ "__init__" "RuneError.__init__" (sm 6 0) jB 34
def Ya:=tZ [ss "at" 225,ss "code" 226]
def U5(P:Params):Obj:=dZ [en P "__module__" 211 jB,en P "__firstlineno__" 215 (ii 9 214),en P "__init__" 224 (rr 35),en P "__static_attributes__" 227 (rr 36),en P "__weakref__" 229 (rr 39),en P "__doc__" 230 (.none)] 3
def U6:Obj:=⟨.type "getset_descriptor",none,.fields (#[ss "__weakref__" 228,rr 38,.builtin "ExceptionGroup.__weakref__",.none]),#[]⟩
noncomputable def Yb:Obj:=⟨.type "super",none,.fields (#[rr 38,rr 38,rr 38]),#[]⟩
noncomputable def Yc:Obj:=⟨.type "builtin_function_or_method",none,.fields (#[.builtin "object.__init_subclass__",rr 38]),#[]⟩
def Yd:=tZ [rr 38]
noncomputable def Ye:Obj:=⟨.type "builtin_function_or_method",none,.fields (#[.builtin "type.__prepare__",.type "type"]),#[]⟩
def U7(P:Params):Obj:=dZ [en P "__module__" 242 jB,en P "__qualname__" 244 (ss "BadKind" 243),en P "__firstlineno__" 246 (ii 14 245),en P "__static_attributes__" 247 (rr 49)] 4
def U8:=lZ "BadKind" "BadKind" 237 14 45 240 241
def Yf:=mZ 47 44 jB
def U9(P:Params):Obj:=dZ [en P "__module__" 242 jB,en P "__firstlineno__" 246 (ii 14 245),en P "__static_attributes__" 247 (rr 49),en P "__doc__" 248 (.none)] 2
def Ua:Obj:=⟨.type "type",none,.cls (cd "BadKind" [rr 38] [rr 51,rr 38,.type "Exception",.type "BaseException",.type "object"] 50 "BadKind" true [] false none false),#[some (rr 42),none,some (ss "BadKind" 235),some (ss "BadKind" 243),some (.builtin "Exception.__new__"),some (.bool true)]⟩
noncomputable def Yg:Obj:=⟨.type "super",none,.fields (#[rr 51,rr 51,rr 51]),#[]⟩
noncomputable def Yh:Obj:=⟨.type "builtin_function_or_method",none,.fields (#[.builtin "object.__init_subclass__",rr 51]),#[]⟩
def Ub:=dZ [⟨0,ii 0 253,ii 20 313⟩,⟨1,ii 1 255,ii 9 314⟩,⟨2,ii 2 257,ii 10 315⟩,⟨3,ii 3 259,ii 11 316⟩,⟨4,ii 4 261,ii 12 317⟩,⟨5,ii 5 263,ii 13 318⟩,⟨6,ii 6 265,ii 14 319⟩,⟨7,ii 7 267,ii 15 320⟩,⟨8,ii 8 269,ii 16 321⟩,⟨9,ii 9 271,ii 17 322⟩,⟨10,ii 10 273,ii 18 323⟩,⟨11,ii 11 275,ii 19 324⟩,⟨12,ii 12 277,ii 1 325⟩,⟨13,ii 13 279,ii 4 326⟩] 14
def Uc:=dZ [⟨20,ii 20 342,ii 0 253⟩,⟨9,ii 9 343,ii 1 255⟩,⟨10,ii 10 344,ii 2 257⟩,⟨11,ii 11 345,ii 3 259⟩,⟨12,ii 12 346,ii 4 261⟩,⟨13,ii 13 347,ii 5 263⟩,⟨14,ii 14 348,ii 6 265⟩,⟨15,ii 15 349,ii 7 267⟩,⟨16,ii 16 350,ii 8 269⟩,⟨17,ii 17 351,ii 9 271⟩,⟨18,ii 18 352,ii 10 273⟩,⟨19,ii 19 353,ii 11 275⟩,⟨1,ii 1 354,ii 12 277⟩,⟨4,ii 4 355,ii 13 279⟩] 14
noncomputable def Yi:Obj:=⟨.type "builtin_function_or_method",none,.fields (#[.builtin "type.__prepare__",.type "type"]),#[]⟩
def Ud(P:Params):Obj:=dZ [en P "__module__" 382 jC,en P "__qualname__" 384 (ss "KindTable" 383),en P "__firstlineno__" 386 (ii 51 385),en P "__init__" 395 (rr 69),en P "row" 403 (rr 76),en P "put" 418 (rr 83),en P "__static_attributes__" 424 (rr 84)] 7
def Yj:=fZ [ii 53 0,ii 4 0,rr 68,ii 67 0,ii 4 0,rr 75,ii 72 0,ii 4 0,rr 82]
def Ue:=lZ "KindTable" "KindTable" 377 51 59 380 381
def Yk:=mZ 61 58 jC
def Yl:=tZ [ss "self" 390,ss "number" 391,ss "row" 392]
def Ym:=rZ "__init__" "KindTable.__init__" (sm 43 0)
def Uf:=kZ "__init__" "KindTable.__init__" 387 53 1 63 393 394
def Ug:=uZ "__init__" "KindTable.__init__" (sm 43 0) jC 68
def Yn:=tZ [ss "self" 399,ss "k" 400]
def Yo:=rZ "row" "KindTable.row" (sm 43 1)
def Uh:=kZ "row" "KindTable.row" 396 67 2 70 401 402
def Ui:=uZ "row" "KindTable.row" (sm 43 1) jC 75
def Yp:=tZ [ss "self" 407,ss "row" 408,ss "found" 409,ss "depth" 410,ss "weight" 411,ss "opened" 412,ss "level" 413,ss "inner" 414,ss "k" 415]
def Yq:=rZ "put" "KindTable.put" (sm 43 2)
def Uj:=kZ "put" "KindTable.put" 404 72 2 77 416 417
def Uk:=uZ "put" "KindTable.put" (sm 43 2) jC 82
def Yr:=tZ [ss "depths" 419,ss "index" 420,ss "opens" 421,ss "rows" 422,ss "weights" 423]
def Ul(P:Params):Obj:=dZ [en P "__module__" 382 jC,en P "__firstlineno__" 386 (ii 51 385),en P "__init__" 395 (rr 69),en P "row" 403 (rr 76),en P "put" 418 (rr 83),en P "__static_attributes__" 424 (rr 84),en P "__dict__" 426 (rr 87),en P "__weakref__" 428 (rr 88),en P "__doc__" 429 (.none)] 4
def Um:Obj:=⟨.type "type",none,.cls (cd "KindTable" [.type "object"] [rr 86,.type "object"] 85 "KindTable" true [] false none false),#[none,none,some (ss "KindTable" 375),some (ss "KindTable" 383),some (.builtin "object.__new__"),some (.bool true)]⟩
def Un:Obj:=⟨.type "getset_descriptor",none,.fields (#[ss "__dict__" 425,rr 86,.builtin "function.__dict__",.builtin "function.__dict__#set"]),#[]⟩
def Uo:Obj:=⟨.type "getset_descriptor",none,.fields (#[ss "__weakref__" 427,rr 86,.builtin "ExceptionGroup.__weakref__",.none]),#[]⟩
noncomputable def Ys:Obj:=⟨.type "super",none,.fields (#[rr 86,rr 86,rr 86]),#[]⟩
noncomputable def Yt:Obj:=⟨.type "builtin_function_or_method",none,.fields (#[.builtin "object.__init_subclass__",rr 86]),#[]⟩
def Yu:=tZ [ss "row" 435,ss "sort" 436]
def Yw:=rW "inner_kinds" (st 44)
def Up:=kW "inner_kinds" 432 100 1 91 437 438
def Uq:=uW "inner_kinds" (st 44) jC 96
def Je:=tZ [ss "sort" 443]
def Jf:=rW "row_level" (st 45)
def BH:=kW "row_level" 440 109 1 98 444 445
def BI:=uW "row_level" (st 45) jC 103
def Jg:=tZ [ss "sort" 450]
def Jh:=rW "row_length" (st 46)
def BJ:=kW "row_length" 447 113 1 105 451 452
def BK:=uW "row_length" (st 46) jC 110
def Ji:=tZ [ss "kt" 457,ss "row" 458,ss "sort" 459,ss "inner" 460]
def Jj:=rW "check_kind_row" (st 47)
def BL:=kW "check_kind_row" 454 119 2 112 461 462
def BM:=uW "check_kind_row" (st 47) jC 117
def Jk:=tZ [ss "kt" 467,ss "row" 468]
def Jl:=rW "check_named" (st 48)
def BN:=kW "check_named" 464 141 2 119 469 470
def BO:=uW "check_named" (st 48) jC 124
def Jm:=tZ [ss "kt" 475,ss "args" 476,ss "arg" 477]
def Jn:=rW "check_args" (st 49)
def BP:=kW "check_args" 472 145 2 126 478 479
def BQ:=uW "check_args" (st 49) jC 131
def Jo:=tZ [ss "kt" 484,ss "k" 485,ss "sort" 486]
def Jp:=rW "may_stand" (st 50)
def BR:=kW "may_stand" 481 149 2 133 487 488
def BS:=uW "may_stand" (st 50) jC 138
def Jq:=tZ [ss "kt" 493,ss "tid" 494,ss "args" 495]
def Jr:=rW "class_kind" (st 51)
def BU:=kW "class_kind" 490 154 3 140 496 497
def BV:=uW "class_kind" (st 51) jC 145
def Js:=tZ [ss "kt" 502,ss "tid" 503,ss "args" 504]
def Jt:=rW "value_kind" (st 52)
def BW:=kW "value_kind" 499 158 3 147 505 506
def BX:=uW "value_kind" (st 52) jC 152
def Ju:=tZ [ss "tid" 511,ss "args" 512]
def Jv:=rW "prim_kind" (st 53)
def BY:=kW "prim_kind" 508 162 2 154 513 514
def BZ:=uW "prim_kind" (st 53) jC 159
def Jw:=tZ [ss "kt" 519,ss "i" 520]
def Jx:=rW "var_kind" (st 54)
def B0:=kW "var_kind" 516 166 2 161 521 522
def B2:=uW "var_kind" (st 54) jC 166
def Jy:=tZ [ss "kt" 527,ss "k" 528]
def Jz:=rW "boxed_kind" (st 55)
def B4:=kW "boxed_kind" 524 168 2 168 529 530
def B5:=uW "boxed_kind" (st 55) jC 173
def KA:=tZ [ss "kt" 535,ss "k" 536]
def KC:=rW "kind_sort" (st 56)
def B6:=kW "kind_sort" 532 170 2 175 537 538
def B7:=uW "kind_sort" (st 56) jC 180
def KD:=tZ [ss "kt" 543,ss "k" 544,ss "row" 545]
def KE:=rW "elem_of" (st 57)
def B8:=kW "elem_of" 540 172 2 182 546 547
def B9:=uW "elem_of" (st 57) jC 187
def KF:=tZ [ss "kt" 552,ss "k" 553,ss "row" 554]
def KG:=rW "tid_of" (st 58)
def Ba:=kW "tid_of" 549 177 2 189 555 556
def Bb:=uW "tid_of" (st 58) jC 194
def KH:=tZ [ss "kt" 561,ss "k" 562,ss "row" 563]
def KI:=rW "args_of" (st 59)
def Bc:=kW "args_of" 558 186 2 196 564 565
def Bd:=uW "args_of" (st 59) jC 201
def KJ:=tZ [ss "kt" 570,ss "k" 571]
def KL:=rW "is_value" (st 60)
def Be:=kW "is_value" 567 191 2 203 572 573
def Bf:=uW "is_value" (st 60) jC 208
def KM:=tZ [ss "kt" 578,ss "k" 579,ss "sort" 580]
def KO:=rW "is_ref" (st 61)
def Bg:=kW "is_ref" 575 195 2 210 581 582
def Bh:=uW "is_ref" (st 61) jC 215
def KP:=tZ [ss "kt" 587,ss "k" 588,ss "sort" 589]
def KQ:=rW "is_var" (st 62)
def Bi:=kW "is_var" 584 200 2 217 590 591
def Bj:=uW "is_var" (st 62) jC 222
def KR:=tZ [ss "kt" 596,ss "k" 597,ss "targs" 598,ss "margs" 599]
def KS:=rW "close" (st 63)
def Bk:=kW "close" 593 203 4 224 600 601
def Bl:=uW "close" (st 63) jC 229
def KT:=tZ [ss "kt" 606,ss "k" 607,ss "targs" 608,ss "margs" 609,ss "seen" 610,ss "row" 611,ss "inner" 612,ss "part" 613]
def KU:=rW "close_in" (st 64)
def Bm:=kW "close_in" 603 208 5 231 614 615
def Bn:=uW "close_in" (st 64) jC 236
def KV:=tZ [ss "kt" 620,ss "row" 621,ss "inner" 622,ss "sort" 623]
def KW:=rW "with_inner" (st 65)
def Bo:=kW "with_inner" 617 223 3 238 624 625
def Bp:=uW "with_inner" (st 65) jC 243
def KY:=tZ [ss "kt" 630,ss "k" 631]
def KZ:=rW "box_of" (st 66)
def Bq:=kW "box_of" 627 232 2 245 632 633
def Br:=uW "box_of" (st 66) jC 250
def K9:=tZ [ss "args" 638,ss "place" 639,ss "k" 640]
def Ka:=rW "pick_arg" (st 67)
def Bs:=kW "pick_arg" 635 240 3 252 641 642
def Bt:=uW "pick_arg" (st 67) jC 257
def Kb:=tZ [ss "kt" 647,ss "ks" 648,ss "targs" 649,ss "margs" 650,ss "out" 651,ss "k" 652]
def Kc:=rW "close_all" (st 68)
def Bu:=kW "close_all" 644 244 4 259 653 654
def Bv:=uW "close_all" (st 68) jC 264
noncomputable def Kd:Obj:=⟨.type "builtin_function_or_method",none,.fields (#[.builtin "type.__prepare__",.type "type"]),#[]⟩
def Bw(P:Params):Obj:=dZ [en P "__module__" 709 jD,en P "__qualname__" 711 (ss "TypeDef" 710),en P "__firstlineno__" 713 (ii 272 712),en P "__init__" 728 (rr 279),en P "__static_attributes__" 748 (rr 280)] 5
def Ke:=fZ [ii 274 0,ii 4 0,rr 278]
def Bx:=lZ "TypeDef" "TypeDef" 704 272 269 707 708
def Kg:=mZ 271 268 jD
def Kh:=tZ [ss "self" 717,ss "tid" 718,ss "name" 719,ss "sort" 720,ss "flags" 721,ss "base" 722,ss "params" 723,ss "asm" 724,ss "word" 725]
def Ki:=rZ "__init__" "TypeDef.__init__" (sm 92 0)
def By:=kZ "__init__" "TypeDef.__init__" 714 274 8 273 726 727
def Bz:=uZ "__init__" "TypeDef.__init__" (sm 92 0) jD 278
def Kj:=tZ [ss "asm" 729,ss "base" 730,ss "bounds" 731,ss "cctor" 732,ss "events" 733,ss "fields" 734,ss "finaliser" 735,ss "flags" 736,ss "home" 737,ss "ifaces" 738,ss "impls" 739,ss "methods" 740,ss "name" 741,ss "params" 742,ss "props" 743,ss "sort" 744,ss "tid" 745,ss "under" 746,ss "variances" 747]
def CA(P:Params):Obj:=dZ [en P "__module__" 709 jD,en P "__firstlineno__" 713 (ii 272 712),en P "__init__" 728 (rr 279),en P "__static_attributes__" 748 (rr 280),en P "__dict__" 750 (rr 283),en P "__weakref__" 752 (rr 284),en P "__doc__" 753 (.none)] 4
def CB:Obj:=⟨.type "type",none,.cls (cd "TypeDef" [.type "object"] [rr 282,.type "object"] 281 "TypeDef" true [] false none false),#[none,none,some (ss "TypeDef" 702),some (ss "TypeDef" 710),some (.builtin "object.__new__"),some (.bool true)]⟩
def CC:Obj:=⟨.type "getset_descriptor",none,.fields (#[ss "__dict__" 749,rr 282,.builtin "function.__dict__",.builtin "function.__dict__#set"]),#[]⟩
def CD:Obj:=⟨.type "getset_descriptor",none,.fields (#[ss "__weakref__" 751,rr 282,.builtin "ExceptionGroup.__weakref__",.none]),#[]⟩
noncomputable def Kk:Obj:=⟨.type "super",none,.fields (#[rr 282,rr 282,rr 282]),#[]⟩
noncomputable def Kl:Obj:=⟨.type "builtin_function_or_method",none,.fields (#[.builtin "object.__init_subclass__",rr 282]),#[]⟩
noncomputable def Km:Obj:=⟨.type "builtin_function_or_method",none,.fields (#[.builtin "type.__prepare__",.type "type"]),#[]⟩
def CE(P:Params):Obj:=dZ [en P "__module__" 763 jD,en P "__qualname__" 765 (ss "MethodDef" 764),en P "__firstlineno__" 767 (ii 298 766),en P "__init__" 781 (rr 300),en P "__static_attributes__" 796 (rr 301)] 5
def Kn:=fZ [ii 300 0,ii 4 0,rr 299]
def CF:=lZ "MethodDef" "MethodDef" 758 298 290 761 762
def Ko:=mZ 292 289 jD
def Kp:=tZ [ss "self" 771,ss "mid" 772,ss "owner" 773,ss "name" 774,ss "access" 775,ss "flags" 776,ss "ret" 777,ss "params" 778]
def Kq:=rZ "__init__" "MethodDef.__init__" (sm 93 0)
def CG:=kZ "__init__" "MethodDef.__init__" 768 300 8 294 779 780
def CH:=uZ "__init__" "MethodDef.__init__" (sm 93 0) jD 299
def Kr:=tZ [ss "access" 782,ss "body" 783,ss "flags" 784,ss "gbounds" 785,ss "gnames" 786,ss "mid" 787,ss "name" 788,ss "native" 789,ss "ngen" 790,ss "owner" 791,ss "params" 792,ss "pflags" 793,ss "pnames" 794,ss "ret" 795]
def CI(P:Params):Obj:=dZ [en P "__module__" 763 jD,en P "__firstlineno__" 767 (ii 298 766),en P "__init__" 781 (rr 300),en P "__static_attributes__" 796 (rr 301),en P "__dict__" 798 (rr 304),en P "__weakref__" 800 (rr 305),en P "__doc__" 801 (.none)] 4
def CJ:Obj:=⟨.type "type",none,.cls (cd "MethodDef" [.type "object"] [rr 303,.type "object"] 302 "MethodDef" true [] false none false),#[none,none,some (ss "MethodDef" 756),some (ss "MethodDef" 764),some (.builtin "object.__new__"),some (.bool true)]⟩
def CK:Obj:=⟨.type "getset_descriptor",none,.fields (#[ss "__dict__" 797,rr 303,.builtin "function.__dict__",.builtin "function.__dict__#set"]),#[]⟩
def CL:Obj:=⟨.type "getset_descriptor",none,.fields (#[ss "__weakref__" 799,rr 303,.builtin "ExceptionGroup.__weakref__",.none]),#[]⟩
noncomputable def Ks:Obj:=⟨.type "super",none,.fields (#[rr 303,rr 303,rr 303]),#[]⟩
noncomputable def Kt:Obj:=⟨.type "builtin_function_or_method",none,.fields (#[.builtin "object.__init_subclass__",rr 303]),#[]⟩
noncomputable def Ku:Obj:=⟨.type "builtin_function_or_method",none,.fields (#[.builtin "type.__prepare__",.type "type"]),#[]⟩
def CM(P:Params):Obj:=dZ [en P "__module__" 811 jD,en P "__qualname__" 813 (ss "Store" 812),en P "__firstlineno__" 815 (ii 315 814),en P "__init__" 822 (rr 321),en P "__static_attributes__" 830 (rr 322)] 5
def Kv:=fZ [ii 317 0,ii 4 0,rr 320]
def CN:=lZ "Store" "Store" 806 315 311 809 810
def Kw:=mZ 313 310 jD
def Kx:=tZ [ss "self" 819]
def Ky:=rZ "__init__" "Store.__init__" (sm 94 0)
def CO:=kZ "__init__" "Store.__init__" 816 317 1 315 820 821
def CP:=uZ "__init__" "Store.__init__" (sm 94 0) jD 320
def Kz:=tZ [ss "asms" 823,ss "entry" 824,ss "fields_" 825,ss "kt" 826,ss "methods" 827,ss "names" 828,ss "types" 829]
def CQ(P:Params):Obj:=dZ [en P "__module__" 811 jD,en P "__firstlineno__" 815 (ii 315 814),en P "__init__" 822 (rr 321),en P "__static_attributes__" 830 (rr 322),en P "__dict__" 832 (rr 325),en P "__weakref__" 834 (rr 326),en P "__doc__" 835 (.none)] 4
def CR:Obj:=⟨.type "type",none,.cls (cd "Store" [.type "object"] [rr 324,.type "object"] 323 "Store" true [] false none false),#[none,none,some (ss "Store" 804),some (ss "Store" 812),some (.builtin "object.__new__"),some (.bool true)]⟩
def CS:Obj:=⟨.type "getset_descriptor",none,.fields (#[ss "__dict__" 831,rr 324,.builtin "function.__dict__",.builtin "function.__dict__#set"]),#[]⟩
def CT:Obj:=⟨.type "getset_descriptor",none,.fields (#[ss "__weakref__" 833,rr 324,.builtin "ExceptionGroup.__weakref__",.none]),#[]⟩
noncomputable def LA:Obj:=⟨.type "super",none,.fields (#[rr 324,rr 324,rr 324]),#[]⟩
noncomputable def LB:Obj:=⟨.type "builtin_function_or_method",none,.fields (#[.builtin "object.__init_subclass__",rr 324]),#[]⟩
def LC:=tZ [ss "count" 841,ss "out" 842,ss "place" 843]
def LD:=rW "plain_names" (st 95)
def CU:=kW "plain_names" 838 325 1 329 844 845
def CV:=uW "plain_names" (st 95) jD 334
def LG:=tZ [ss "store" 850,ss "k" 851,ss "tid" 852]
def LH:=rW "type_of" (st 96)
def CW:=kW "type_of" 847 330 2 336 853 854
def CX:=uW "type_of" (st 96) jD 341
def LI:=tZ [ss "store" 859,ss "tid" 860,ss "name" 861,ss "out" 862,ss "mid" 863]
def LJ:=rW "find_methods" (st 97)
def CY:=kW "find_methods" 856 335 3 343 864 865
def o349:=uW "find_methods" (st 97) jD 348
def LK:=tZ [ss "store" 870,ss "k" 871,ss "kt" 872,ss "sort" 873,ss "t" 874]
def LL:=rW "base_of" (st 98)
def CZ:=kW "base_of" 867 341 2 350 875 876
def C0:=uW "base_of" (st 98) jD 355
def LM:=tZ [ss "store" 881,ss "k" 882]
def LN:=rW "base_of_prim" (st 99)
def C1:=kW "base_of_prim" 878 360 2 357 883 884
def C2:=uW "base_of_prim" (st 99) jD 362
def LO:=tZ [ss "store" 889,ss "k" 890,ss "kt" 891,ss "sort" 892,ss "t" 893]
def LP:=rW "ifaces_of" (st 100)
def C3:=kW "ifaces_of" 886 366 2 364 894 895
def C4:=uW "ifaces_of" (st 100) jD 369
def LQ:=tZ [ss "m" 900]
def LR:=rW "is_ctor" (st 101)
def C5:=kW "is_ctor" 897 377 1 371 901 902
def C6:=uW "is_ctor" (st 101) jD 376
def C7:=tZ [ii 1 692,ii 2 694,ii 3 696]
def C8:=dZ [⟨4,ii 4 261,ii 3 259⟩,⟨6,ii 6 265,ii 5 263⟩,⟨8,ii 8 269,ii 7 267⟩,⟨10,ii 10 273,ii 9 271⟩] 4
def LU:=tZ [ss "host" 927,ss "k" 928,ss "out" 929,ss "seen" 930,ss "todo" 931,ss "b" 932,ss "inner" 933]
def LV:=rW "bound_kinds" (st 111)
def C9:=kW "bound_kinds" 924 388 2 380 934 935
def Ca:=uW "bound_kinds" (st 111) jE 385
def LW:=tZ [ss "host" 940,ss "k" 941,ss "b" 942]
def LX:=rW "param_is_value" (st 112)
def Cb:=kW "param_is_value" 937 402 2 387 943 944
def Cc:=uW "param_is_value" (st 112) jE 392
def LY:=tZ [ss "host" 949,ss "k" 950]
def LZ:=rW "param_has_new" (st 113)
def Cd:=kW "param_has_new" 946 412 2 394 951 952
def Ce:=uW "param_has_new" (st 113) jE 399
def La:=tZ [ss "host" 957,ss "k" 958,ss "b" 959]
def Lb:=rW "surely_class" (st 114)
def Cf:=kW "surely_class" 954 414 2 401 960 961
def Cg:=uW "surely_class" (st 114) jE 406
def Lc:=tZ [ss "host" 966,ss "k" 967]
def Ld:=rW "is_iface" (st 115)
def Ch:=kW "is_iface" 963 421 2 408 968 969
def Ci:=uW "is_iface" (st 115) jE 413
def Le:=tZ [ss "host" 974,ss "k" 975,ss "out" 976,ss "seen" 977]
def Lf:=rW "base_chain" (st 116)
def Cj:=kW "base_chain" 971 423 2 415 978 979
def Ck:=uW "base_chain" (st 116) jE 420
def Lg:=tZ [ss "host" 984,ss "k" 985,ss "found" 986,ss "seen" 987,ss "at" 988]
def Lh:=rW "all_ifaces" (st 117)
def Cm:=kW "all_ifaces" 981 431 2 422 989 990
def Cn:=uW "all_ifaces" (st 117) jE 427
def Li:=tZ [ss "host" 995,ss "kinds" 996,ss "found" 997,ss "seen" 998,ss "todo" 999,ss "k" 1000,ss "inner" 1001]
def Lj:=rW "add_ifaces" (st 118)
def Co:=kW "add_ifaces" 992 437 4 429 1002 1003
def Cp:=uW "add_ifaces" (st 118) jE 434
def Lk:=tZ [ss "host" 1008,ss "k" 1009]
def Ll:=rW "stands_for_ref" (st 119)
def Cq:=kW "stands_for_ref" 1005 447 2 436 1010 1011
def Cr:=uW "stands_for_ref" (st 119) jE 441
def Lm:=tZ [ss "host" 1016,ss "k" 1017,ss "under" 1018]
def Ln:=rW "reduced" (st 120)
def Cs:=kW "reduced" 1013 449 2 443 1019 1020
def Ct:=uW "reduced" (st 120) jE 448
def Lo:=tZ [ss "kt" 1025,ss "k" 1026]
def Lp:=rW "is_nullable" (st 121)
def Cu:=kW "is_nullable" 1022 452 2 450 1027 1028
def Cv:=uW "is_nullable" (st 121) jE 455
def Lq:=tZ [ss "store" 1035,ss "from_asm" 1036,ss "tid" 1037,ss "at" 1038,ss "t" 1039]
def Lr:=rW "type_seen" (st 123)
def Cw:=kW "type_seen" 1032 455 3 457 1040 1041
def Cy:=uW "type_seen" (st 123) jF 462
def Ls:=tZ [ss "store" 1046,ss "tid" 1047]
def Lu:=rW "named_type" (st 124)
def Cz:=kW "named_type" 1043 463 2 464 1048 1049
def DA:=uW "named_type" (st 124) jF 469
def Lw:=tZ [ss "store" 1054,ss "from_asm" 1055,ss "k" 1056,ss "kt" 1057,ss "todo" 1058,ss "seen" 1059,ss "at" 1060,ss "sort" 1061,ss "inner" 1062]
def Lx:=rW "kind_seen" (st 125)
def DB:=kW "kind_seen" 1051 467 3 471 1063 1064
def DC:=uW "kind_seen" (st 125) jF 476
def Ly:=tZ [ss "store" 1069,ss "tid" 1070,ss "base_tid" 1071,ss "seen" 1072,ss "t" 1073]
def Lz:=rW "derives" (st 126)
def DD:=kW "derives" 1066 491 3 478 1074 1075
def DE:=uW "derives" (st 126) jF 483
def MA:=tZ [ss "store" 1080,ss "through" 1081,ss "kt" 1082,ss "sort" 1083]
def MB:=rW "through_tid" (st 127)
def DF:=kW "through_tid" 1077 502 2 485 1084 1085
def DG:=uW "through_tid" (st 127) jF 490
def MC:=tZ [ss "store" 1090,ss "tid" 1091,ss "out" 1092,ss "seen" 1093,ss "t" 1094]
def MD:=rW "homes_of" (st 128)
def DH:=kW "homes_of" 1087 510 2 492 1095 1096
def DI:=uW "homes_of" (st 128) jF 497
def ME:=tZ [ss "store" 1101,ss "at" 1102,ss "owner_tid" 1103,ss "through" 1104]
def MF:=rW "family_seen" (st 129)
def DJ:=kW "family_seen" 1098 521 4 499 1105 1106
def DK:=uW "family_seen" (st 129) jF 504
def MG:=tZ [ss "store" 1111,ss "at" 1112,ss "owner_tid" 1113,ss "access" 1114,ss "through" 1115,ss "enclosed" 1116]
def MH:=rW "seen_at" (st 130)
def DM:=kW "seen_at" 1108 527 5 506 1117 1118
def DN:=uW "seen_at" (st 130) jF 511
def MI:=tZ [ss "store" 1123,ss "from_tid" 1124,ss "owner_tid" 1125,ss "access" 1126,ss "through" 1127,ss "at" 1128]
def MJ:=rW "member_seen" (st 131)
def DO:=kW "member_seen" 1120 542 5 513 1129 1130
def DP:=uW "member_seen" (st 131) jF 518
def ML:=tZ [ss "store" 1135,ss "from_tid" 1136,ss "mref" 1137,ss "through" 1138,ss "owner" 1139,ss "mid" 1140,ss "margs" 1141,ss "asm" 1142,ss "k" 1143,ss "m" 1144]
def MM:=rW "mref_seen" (st 132)
def DR:=kW "mref_seen" 1132 547 4 520 1145 1146
def DS:=uW "mref_seen" (st 132) jF 525
def MN:=tZ [ss "cx" 1153,ss "tid" 1154,ss "access" 1155,ss "through" 1156]
def MP:=rW "member_in_sight" (st 134)
def DU:=kW "member_in_sight" 1150 560 4 527 1157 1158
def DV:=uW "member_in_sight" (st 134) jG 532
def MQ:=tZ [ss "cx" 1163,ss "mid" 1164,ss "through" 1165,ss "m" 1166]
def MT:=rW "mid_seen" (st 135)
def DW:=kW "mid_seen" 1160 564 3 534 1167 1168
def DX:=uW "mid_seen" (st 135) jG 539
def MW:=tZ [ss "t" 1173,ss "store" 1174,ss "mid" 1175,ss "row" 1176]
def MX:=rW "is_explicit" (st 136)
def DY:=kW "is_explicit" 1170 569 3 541 1177 1178
def o547:=uW "is_explicit" (st 136) jG 546
def MY:=rW "is_override" (st 137)
def DZ:Obj:=⟨.type "code",none,.fields (#[ss "is_override" 1180,ss "is_override" 1181,ss "/claim/cut.py" 1182,ii 576 0,ii 3 0,ii 0 0,ii 0 0,ii 3 0,rr 548,.bool true,ii 181 0,rr 549,.none,.none,.none,rr 550,ii 1183 0,ii 576 0,ss "/claim/cut.py" 1184]),#[]⟩
def D4:=uW "is_override" (st 137) jG 551
def MZ:=tZ [ss "store" 1189,ss "tid" 1190,ss "m" 1191,ss "mid" 1192,ss "b" 1193]
def M0:=rW "has_slot" (st 138)
def D5:=kW "has_slot" 1186 590 3 553 1194 1195
def D6:=uW "has_slot" (st 138) jG 558
def Ma:=tZ [ss "cx" 1200,ss "at" 1201,ss "t" 1202,ss "name" 1203,ss "through" 1204,ss "out" 1205,ss "hidden" 1206,ss "mid" 1207,ss "m" 1208]
def Mb:=rW "methods_here" (st 139)
def D7:=kW "methods_here" 1197 596 5 560 1209 1210
def o566:=uW "methods_here" (st 139) jG 565
noncomputable def Mc:Obj:=⟨.type "builtin_function_or_method",none,.fields (#[.builtin "type.__prepare__",.type "type"]),#[]⟩
def D8(P:Params):Obj:=dZ [en P "__module__" 1221 jH,en P "__qualname__" 1223 (ss "StoreHost" 1222),en P "__firstlineno__" 1225 (ii 611 1224),en P "__init__" 1233 (rr 580),en P "base" 1241 (rr 587),en P "ifaces_at" 1249 (rr 594),en P "sort" 1258 (rr 601),en P "variance" 1266 (rr 608),en P "under" 1274 (rr 615),en P "has_new" 1282 (rr 622),en P "__static_attributes__" 1293 (rr 623)] 11
def Md:=fZ [ii 613 0,ii 4 0,rr 579,ii 625 0,ii 4 0,rr 586,ii 630 0,ii 4 0,rr 593,ii 635 0,ii 4 0,rr 600,ii 639 0,ii 4 0,rr 607,ii 642 0,ii 4 0,rr 614,ii 645 0,ii 4 0,rr 621]
def D9:=lZ "StoreHost" "StoreHost" 1216 611 570 1219 1220
def Me:=mZ 572 569 jH
def Mf:=tZ [ss "self" 1229,ss "store" 1230]
def Mg:=rZ "__init__" "StoreHost.__init__" (sm 141 0)
def Da:=kZ "__init__" "StoreHost.__init__" 1226 613 2 574 1231 1232
def Db:=uZ "__init__" "StoreHost.__init__" (sm 141 0) jH 579
def Mh:=tZ [ss "self" 1237,ss "k" 1238]
def Mi:=rZ "base" "StoreHost.base" (sm 141 1)
def Dc:=kZ "base" "StoreHost.base" 1234 625 2 581 1239 1240
def Dd:=uZ "base" "StoreHost.base" (sm 141 1) jH 586
def Mj:=tZ [ss "self" 1245,ss "k" 1246]
def Mk:=rZ "ifaces_at" "StoreHost.ifaces_at" (sm 141 2)
def De:=kZ "ifaces_at" "StoreHost.ifaces_at" 1242 630 2 588 1247 1248
def Df:=uZ "ifaces_at" "StoreHost.ifaces_at" (sm 141 2) jH 593
def Ml:=tZ [ss "self" 1253,ss "k" 1254,ss "t" 1255]
def Mm:=rZ "sort" "StoreHost.sort" (sm 141 3)
def Dg:=kZ "sort" "StoreHost.sort" 1250 635 2 595 1256 1257
def Dh:=uZ "sort" "StoreHost.sort" (sm 141 3) jH 600
def Mn:=tZ [ss "self" 1262,ss "tid" 1263]
def Mo:=rZ "variance" "StoreHost.variance" (sm 141 4)
def Di:=kZ "variance" "StoreHost.variance" 1259 639 2 602 1264 1265
def Dj:=uZ "variance" "StoreHost.variance" (sm 141 4) jH 607
def Mp:=tZ [ss "self" 1270,ss "k" 1271]
def Mq:=rZ "under" "StoreHost.under" (sm 141 5)
def Dk:=kZ "under" "StoreHost.under" 1267 642 2 609 1272 1273
def Dl:=uZ "under" "StoreHost.under" (sm 141 5) jH 614
def Mr:=tZ [ss "self" 1278,ss "k" 1279]
def Ms:=rZ "has_new" "StoreHost.has_new" (sm 141 6)
def Dm:=kZ "has_new" "StoreHost.has_new" 1275 645 2 616 1280 1281
def Dn:=uZ "has_new" "StoreHost.has_new" (sm 141 6) jH 621
def Mu:=tZ [ss "bases" 1283,ss "bounds" 1284,ss "gflags" 1285,ss "ifaces" 1286,ss "kt" 1287,ss "news" 1288,ss "sorts" 1289,ss "store" 1290,ss "unders" 1291,ss "variances" 1292]
def Do(P:Params):Obj:=dZ [en P "__module__" 1221 jH,en P "__firstlineno__" 1225 (ii 611 1224),en P "__init__" 1233 (rr 580),en P "base" 1241 (rr 587),en P "ifaces_at" 1249 (rr 594),en P "sort" 1258 (rr 601),en P "variance" 1266 (rr 608),en P "under" 1274 (rr 615),en P "has_new" 1282 (rr 622),en P "__static_attributes__" 1293 (rr 623),en P "__dict__" 1295 (rr 626),en P "__weakref__" 1297 (rr 627),en P "__doc__" 1298 (.none)] 4
def Dp:Obj:=⟨.type "type",none,.cls (cd "StoreHost" [.type "object"] [rr 625,.type "object"] 624 "StoreHost" true [] false none false),#[none,none,some (ss "StoreHost" 1214),some (ss "StoreHost" 1222),some (.builtin "object.__new__"),some (.bool true)]⟩
def Dq:Obj:=⟨.type "getset_descriptor",none,.fields (#[ss "__dict__" 1294,rr 625,.builtin "function.__dict__",.builtin "function.__dict__#set"]),#[]⟩
def Dr:Obj:=⟨.type "getset_descriptor",none,.fields (#[ss "__weakref__" 1296,rr 625,.builtin "ExceptionGroup.__weakref__",.none]),#[]⟩
noncomputable def Mv:Obj:=⟨.type "super",none,.fields (#[rr 625,rr 625,rr 625]),#[]⟩
noncomputable def Mw:Obj:=⟨.type "builtin_function_or_method",none,.fields (#[.builtin "object.__init_subclass__",rr 625]),#[]⟩
def Mx:=tZ [ss "store" 1304,ss "k" 1305,ss "t" 1306]
def My:=rW "store_under" (st 142)
def Ds:=kW "store_under" 1301 649 2 630 1307 1308
def Dt:=uW "store_under" (st 142) jH 635
def Mz:=tZ [ss "store" 1313,ss "tid" 1314]
def NA:=rW "store_variance" (st 143)
def Du:=kW "store_variance" 1310 656 2 637 1315 1316
def Dv:=uW "store_variance" (st 143) jH 642
def NB:=tZ [ss "store" 1321,ss "k" 1322,ss "t" 1323,ss "mid" 1324,ss "m" 1325]
def NC:=rW "store_has_new" (st 144)
def Dw:=kW "store_has_new" 1318 660 2 644 1326 1327
def Dx:=uW "store_has_new" (st 144) jH 649
def ND:=tZ [ss "host" 1332,ss "k" 1333,ss "kt" 1334,ss "best" 1335,ss "b" 1336]
def NE:=rW "loose_base" (st 145)
def Dy:=kW "loose_base" 1329 673 2 651 1337 1338
def Dz:=uW "loose_base" (st 145) jH 656
def NF:=rW "loose_ifaces" (st 146)
def EA:Obj:=⟨.type "code",none,.fields (#[ss "loose_ifaces" 1340,ss "loose_ifaces" 1341,ss "/claim/cut.py" 1342,ii 684 0,ii 2 0,ii 0 0,ii 0 0,ii 3 0,rr 658,.bool true,ii 181 0,rr 659,.none,.none,.none,rr 660,ii 1343 0,ii 684 0,ss "/claim/cut.py" 1344]),#[]⟩
def EB:=uW "loose_ifaces" (st 146) jH 661
noncomputable def NG:Obj:=⟨.type "builtin_function_or_method",none,.fields (#[.builtin "type.__prepare__",.type "type"]),#[]⟩
def EC(P:Params):Obj:=dZ [en P "__module__" 1355 jH,en P "__qualname__" 1357 (ss "Book" 1356),en P "__firstlineno__" 1359 (ii 690 1358),en P "__init__" 1367 (rr 676),en P "__static_attributes__" 1372 (rr 677)] 5
def NH:=fZ [ii 692 0,ii 4 0,rr 675]
def ED:=lZ "Book" "Book" 1350 690 666 1353 1354
def NI:=mZ 668 665 jH
def NJ:=tZ [ss "self" 1363,ss "strict" 1364]
def NK:=rZ "__init__" "Book.__init__" (sm 148 0)
def EE:=kZ "__init__" "Book.__init__" 1360 692 2 670 1365 1366
def EF:=uZ "__init__" "Book.__init__" (sm 148 0) jH 675
def NL:=tZ [ss "listed" 1368,ss "pairs" 1369,ss "proved" 1370,ss "strict" 1371]
def EG(P:Params):Obj:=dZ [en P "__module__" 1355 jH,en P "__firstlineno__" 1359 (ii 690 1358),en P "__init__" 1367 (rr 676),en P "__static_attributes__" 1372 (rr 677),en P "__dict__" 1374 (rr 680),en P "__weakref__" 1376 (rr 681),en P "__doc__" 1377 (.none)] 4
def EH:Obj:=⟨.type "type",none,.cls (cd "Book" [.type "object"] [rr 679,.type "object"] 678 "Book" true [] false none false),#[none,none,some (ss "Book" 1348),some (ss "Book" 1356),some (.builtin "object.__new__"),some (.bool true)]⟩
def EJ:Obj:=⟨.type "getset_descriptor",none,.fields (#[ss "__dict__" 1373,rr 679,.builtin "function.__dict__",.builtin "function.__dict__#set"]),#[]⟩
def EK:Obj:=⟨.type "getset_descriptor",none,.fields (#[ss "__weakref__" 1375,rr 679,.builtin "ExceptionGroup.__weakref__",.none]),#[]⟩
noncomputable def NM:Obj:=⟨.type "super",none,.fields (#[rr 679,rr 679,rr 679]),#[]⟩
noncomputable def NO:Obj:=⟨.type "builtin_function_or_method",none,.fields (#[.builtin "object.__init_subclass__",rr 679]),#[]⟩
def NP:=tZ [ss "host" 1383,ss "s" 1384,ss "t" 1385]
def NQ:=rW "ref_assignable" (st 149)
def EL:=kW "ref_assignable" 1380 697 3 684 1386 1387
def EM:=uW "ref_assignable" (st 149) jH 689
def NR:=tZ [ss "host" 1392,ss "s" 1393,ss "t" 1394]
def NS:=rW "source_assignable" (st 150)
def EN:=kW "source_assignable" 1389 699 3 691 1395 1396
def EO:=uW "source_assignable" (st 150) jH 696
def NT:=tZ [ss "host" 1401,ss "s" 1402,ss "t" 1403,ss "strict" 1404,ss "book" 1405]
def NU:=rW "assign_settled" (st 151)
def EP:=kW "assign_settled" 1398 701 4 698 1406 1407
def EQ:=uW "assign_settled" (st 151) jH 703
def NV:=tZ [ss "host" 1412,ss "book" 1413,ss "at" 1414,ss "pair" 1415]
def NW:=rW "settle_book" (st 152)
def ER:=kW "settle_book" 1409 707 2 705 1416 1417
def ES:=uW "settle_book" (st 152) jH 710
def NX:=tZ [ss "host" 1422,ss "pair" 1423,ss "book" 1424]
def NY:=rW "has_proof" (st 153)
def ET:=kW "has_proof" 1419 715 3 712 1425 1426
def EU:=uW "has_proof" (st 153) jH 717
def NZ:=tZ [ss "host" 1431,ss "s" 1432,ss "t" 1433,ss "book" 1434,ss "kt" 1435]
def Na:=rW "assign_within" (st 154)
def EV:=kW "assign_within" 1428 722 4 719 1436 1437
def EW:=uW "assign_within" (st 154) jH 724
def Nb:=tZ [ss "host" 1442,ss "s" 1443,ss "t" 1444,ss "book" 1445,ss "kt" 1446,ss "at" 1447]
def Nc:=rW "assign_look" (st 155)
def EX:=kW "assign_look" 1439 738 4 726 1448 1449
def EY:=uW "assign_look" (st 155) jH 731
def Nd:=tZ [ss "host" 1454,ss "k" 1455,ss "t" 1456,ss "book" 1457,ss "b" 1458,ss "at" 1459]
def Nf:=rW "param_within" (st 156)
def E1:=kW "param_within" 1451 752 4 733 1460 1461
def E2:=uW "param_within" (st 156) jH 738
def Ng:=tZ [ss "host" 1466,ss "s" 1467,ss "t" 1468,ss "book" 1469,ss "kt" 1470,ss "ways" 1471,ss "have" 1472,ss "want" 1473,ss "i" 1474,ss "way" 1475,ss "pair" 1476]
def Nh:=rW "var_within" (st 157)
def E3:=kW "var_within" 1463 760 4 740 1477 1478
def E4:=uW "var_within" (st 157) jH 745
def Ni:=tZ [ss "host" 1483,ss "s" 1484,ss "t" 1485,ss "book" 1486,ss "kt" 1487]
def Nj:=rW "inner_within" (st 158)
def E5:=kW "inner_within" 1480 778 4 747 1488 1489
def E6:=uW "inner_within" (st 158) jH 752
def Nk:=tZ [ss "host" 1494,ss "s" 1495,ss "t" 1496,ss "book" 1497]
def Nl:=rW "elems_within" (st 159)
def E7:=kW "elems_within" 1491 785 4 754 1498 1499
def E8:=uW "elems_within" (st 159) jH 759
noncomputable def Nm:Obj:=⟨.type "builtin_function_or_method",none,.fields (#[.builtin "type.__prepare__",.type "type"]),#[]⟩
def E9(P:Params):Obj:=dZ [en P "__module__" 1510 jI,en P "__qualname__" 1512 (ss "Diags" 1511),en P "__firstlineno__" 1514 (ii 792 1513),en P "__init__" 1521 (rr 774),en P "put" 1531 (rr 781),en P "cut" 1539 (rr 788),en P "numbers" 1545 (rr 793),en P "__static_attributes__" 1547 (rr 794)] 8
def Nn:=fZ [ii 794 0,ii 4 0,rr 773,ii 797 0,ii 4 0,rr 780,ii 800 0,ii 4 0,rr 787,ii 804 0,ii 4 0,rr 792]
def Ea:=lZ "Diags" "Diags" 1505 792 764 1508 1509
def No:=mZ 766 763 jI
def Np:=tZ [ss "self" 1518]
def Nq:=rZ "__init__" "Diags.__init__" (sm 161 0)
def Eb:=kZ "__init__" "Diags.__init__" 1515 794 1 768 1519 1520
def Ec:=uZ "__init__" "Diags.__init__" (sm 161 0) jI 773
def Nr:=tZ [ss "self" 1525,ss "number" 1526,ss "at" 1527,ss "words" 1528]
def Nt:=rZ "put" "Diags.put" (sm 161 1)
def Ed:=kZ "put" "Diags.put" 1522 797 4 775 1529 1530
def Ee:=uZ "put" "Diags.put" (sm 161 1) jI 780
def Nu:=tZ [ss "self" 1535,ss "count" 1536]
def Nv:=rZ "cut" "Diags.cut" (sm 161 2)
def Ef:=kZ "cut" "Diags.cut" 1532 800 2 782 1537 1538
def Eg:=uZ "cut" "Diags.cut" (sm 161 2) jI 787
def Nw:=rZ "numbers" "Diags.numbers" (sm 161 3)
def Eh:Obj:=⟨.type "code",none,.fields (#[ss "numbers" 1540,ss "Diags.numbers" 1541,ss "/claim/cut.py" 1542,ii 804 0,ii 1 0,ii 0 0,ii 0 0,ii 3 0,rr 789,.bool true,ii 181 0,rr 790,.none,.none,.none,rr 791,ii 1543 0,ii 804 0,ss "/claim/cut.py" 1544]),#[]⟩
def Ei:=uZ "numbers" "Diags.numbers" (sm 161 3) jI 792
def Nx:=tZ [ss "rows" 1546]
def Ej(P:Params):Obj:=dZ [en P "__module__" 1510 jI,en P "__firstlineno__" 1514 (ii 792 1513),en P "__init__" 1521 (rr 774),en P "put" 1531 (rr 781),en P "cut" 1539 (rr 788),en P "numbers" 1545 (rr 793),en P "__static_attributes__" 1547 (rr 794),en P "__dict__" 1549 (rr 797),en P "__weakref__" 1551 (rr 798),en P "__doc__" 1552 (.none)] 4
def Ek:Obj:=⟨.type "type",none,.cls (cd "Diags" [.type "object"] [rr 796,.type "object"] 795 "Diags" true [] false none false),#[none,none,some (ss "Diags" 1503),some (ss "Diags" 1511),some (.builtin "object.__new__"),some (.bool true)]⟩
def El:Obj:=⟨.type "getset_descriptor",none,.fields (#[ss "__dict__" 1548,rr 796,.builtin "function.__dict__",.builtin "function.__dict__#set"]),#[]⟩
def Em:Obj:=⟨.type "getset_descriptor",none,.fields (#[ss "__weakref__" 1550,rr 796,.builtin "ExceptionGroup.__weakref__",.none]),#[]⟩
noncomputable def Ny:Obj:=⟨.type "super",none,.fields (#[rr 796,rr 796,rr 796]),#[]⟩
noncomputable def Nz:Obj:=⟨.type "builtin_function_or_method",none,.fields (#[.builtin "object.__init_subclass__",rr 796]),#[]⟩
noncomputable def OB:Obj:=⟨.type "builtin_function_or_method",none,.fields (#[.builtin "type.__prepare__",.type "type"]),#[]⟩
def En(P:Params):Obj:=dZ [en P "__module__" 1564 jJ,en P "__qualname__" 1566 (ss "Unit" 1565),en P "__firstlineno__" 1568 (ii 807 1567),en P "__init__" 1577 (rr 814),en P "__static_attributes__" 1587 (rr 815)] 5
def OC:=fZ [ii 809 0,ii 4 0,rr 813]
def Eo:=lZ "Unit" "Unit" 1559 807 804 1562 1563
def OD:=mZ 806 803 jJ
def OE:=tZ [ss "self" 1572,ss "store" 1573,ss "asm" 1574]
def OF:=rZ "__init__" "Unit.__init__" (sm 163 0)
def Ep:=kZ "__init__" "Unit.__init__" 1569 809 3 808 1575 1576
def Er:=uZ "__init__" "Unit.__init__" (sm 163 0) jJ 813
def OG:=tZ [ss "asm" 1578,ss "consts" 1579,ss "diags" 1580,ss "fns" 1581,ss "inits" 1582,ss "of_mid" 1583,ss "sinits" 1584,ss "store" 1585,ss "vars" 1586]
def Es(P:Params):Obj:=dZ [en P "__module__" 1564 jJ,en P "__firstlineno__" 1568 (ii 807 1567),en P "__init__" 1577 (rr 814),en P "__static_attributes__" 1587 (rr 815),en P "__dict__" 1589 (rr 818),en P "__weakref__" 1591 (rr 819),en P "__doc__" 1592 (.none)] 4
def Et:Obj:=⟨.type "type",none,.cls (cd "Unit" [.type "object"] [rr 817,.type "object"] 816 "Unit" true [] false none false),#[none,none,some (ss "Unit" 1557),some (ss "Unit" 1565),some (.builtin "object.__new__"),some (.bool true)]⟩
def Eu:Obj:=⟨.type "getset_descriptor",none,.fields (#[ss "__dict__" 1588,rr 817,.builtin "function.__dict__",.builtin "function.__dict__#set"]),#[]⟩
def Ev:Obj:=⟨.type "getset_descriptor",none,.fields (#[ss "__weakref__" 1590,rr 817,.builtin "ExceptionGroup.__weakref__",.none]),#[]⟩
noncomputable def OH:Obj:=⟨.type "super",none,.fields (#[rr 817,rr 817,rr 817]),#[]⟩
noncomputable def OJ:Obj:=⟨.type "builtin_function_or_method",none,.fields (#[.builtin "object.__init_subclass__",rr 817]),#[]⟩
noncomputable def OK:Obj:=⟨.type "builtin_function_or_method",none,.fields (#[.builtin "type.__prepare__",.type "type"]),#[]⟩
def Ew(P:Params):Obj:=dZ [en P "__module__" 1604 jK,en P "__qualname__" 1606 (ss "Yard" 1605),en P "__firstlineno__" 1608 (ii 820 1607),en P "__init__" 1618 (rr 835),en P "kind" 1626 (rr 842),en P "fault" 1636 (rr 849),en P "show" 1644 (rr 856),en P "kept" 1653 (rr 863),en P "__static_attributes__" 1667 (rr 864)] 9
def OM:=fZ [ii 822 0,ii 4 0,rr 834,ii 837 0,ii 4 0,rr 841,ii 840 0,ii 4 0,rr 848,ii 843 0,ii 4 0,rr 855,ii 846 0,ii 4 0,rr 862]
def Ex:=lZ "Yard" "Yard" 1599 820 825 1602 1603
def ON:=mZ 827 824 jK
def OO:=tZ [ss "self" 1612,ss "unit" 1613,ss "host" 1614,ss "asm" 1615]
def OP:=rZ "__init__" "Yard.__init__" (sm 165 0)
def Ey:=kZ "__init__" "Yard.__init__" 1609 822 4 829 1616 1617
def Ez:=uZ "__init__" "Yard.__init__" (sm 165 0) jK 834
def OQ:=tZ [ss "self" 1622,ss "node" 1623]
def OS:=rZ "kind" "Yard.kind" (sm 165 1)
def FA:=kZ "kind" "Yard.kind" 1619 837 2 836 1624 1625
def FB:=uZ "kind" "Yard.kind" (sm 165 1) jK 841
def OT:=tZ [ss "self" 1630,ss "number" 1631,ss "node" 1632,ss "words" 1633]
def OU:=rZ "fault" "Yard.fault" (sm 165 2)
def FC:=kZ "fault" "Yard.fault" 1627 840 4 843 1634 1635
def FD:=uZ "fault" "Yard.fault" (sm 165 2) jK 848
def OV:=tZ [ss "self" 1640,ss "k" 1641]
def OW:=rZ "show" "Yard.show" (sm 165 3)
def FE:=kZ "show" "Yard.show" 1637 843 2 850 1642 1643
def FF:=uZ "show" "Yard.show" (sm 165 3) jK 855
def OX:=tZ [ss "self" 1648,ss "k" 1649,ss "node" 1650]
def OY:=rZ "kept" "Yard.kept" (sm 165 4)
def FH:=kZ "kept" "Yard.kept" 1645 846 3 857 1651 1652
def FJ:=uZ "kept" "Yard.kept" (sm 165 4) jK 862
def OZ:=tZ [ss "asm" 1654,ss "early" 1655,ss "host" 1656,ss "kinds" 1657,ss "kt" 1658,ss "mid" 1659,ss "owner" 1660,ss "static" 1661,ss "store" 1662,ss "told" 1663,ss "tparams" 1664,ss "unit" 1665,ss "unmet" 1666]
def FK(P:Params):Obj:=dZ [en P "__module__" 1604 jK,en P "__firstlineno__" 1608 (ii 820 1607),en P "__init__" 1618 (rr 835),en P "kind" 1626 (rr 842),en P "fault" 1636 (rr 849),en P "show" 1644 (rr 856),en P "kept" 1653 (rr 863),en P "__static_attributes__" 1667 (rr 864),en P "__dict__" 1669 (rr 867),en P "__weakref__" 1671 (rr 868),en P "__doc__" 1672 (.none)] 4
def FL:Obj:=⟨.type "type",none,.cls (cd "Yard" [.type "object"] [rr 866,.type "object"] 865 "Yard" true [] false none false),#[none,none,some (ss "Yard" 1597),some (ss "Yard" 1605),some (.builtin "object.__new__"),some (.bool true)]⟩
def FM:Obj:=⟨.type "getset_descriptor",none,.fields (#[ss "__dict__" 1668,rr 866,.builtin "function.__dict__",.builtin "function.__dict__#set"]),#[]⟩
def FN:Obj:=⟨.type "getset_descriptor",none,.fields (#[ss "__weakref__" 1670,rr 866,.builtin "ExceptionGroup.__weakref__",.none]),#[]⟩
noncomputable def O3:Obj:=⟨.type "super",none,.fields (#[rr 866,rr 866,rr 866]),#[]⟩
noncomputable def O4:Obj:=⟨.type "builtin_function_or_method",none,.fields (#[.builtin "object.__init_subclass__",rr 866]),#[]⟩
def O5:=tZ [ss "yard" 1678,ss "k" 1679,ss "node" 1680]
def O6:=rW "yard_kept" (st 166)
def FO:=kW "yard_kept" 1675 848 3 871 1681 1682
def FP:=uW "yard_kept" (st 166) jK 876
def O7:=tZ [ss "host" 1689,ss "k" 1690]
def O8:=rW "surely_value" (st 168)
def FQ:=kW "surely_value" 1686 854 2 878 1691 1692
def FR:=uW "surely_value" (st 168) jL 883
def O9:=tZ [ss "host" 1697,ss "arg" 1698,ss "flags" 1699,ss "kinds" 1700,ss "strict" 1701,ss "kt" 1702,ss "want" 1703]
def Oa:=rW "bound_met" (st 169)
def FS:=kW "bound_met" 1694 858 5 885 1704 1705
def FT:=uW "bound_met" (st 169) jL 890
def Ob:=tZ [ss "host" 1710,ss "s" 1711,ss "t" 1712,ss "strict" 1713]
def Oc:=rW "goes_to_bound" (st 170)
def FU:=kW "goes_to_bound" 1707 874 4 892 1714 1715
def FV:=uW "goes_to_bound" (st 170) jL 897
def Od:=tZ [ss "host" 1720,ss "arg" 1721,ss "want" 1722,ss "strict" 1723,ss "kt" 1724]
def Oe:=rW "fits_bound" (st 171)
def FW:=kW "fits_bound" 1717 878 4 899 1725 1726
def FX:=uW "fits_bound" (st 171) jL 904
def Of:=tZ [ss "host" 1731,ss "rows" 1732,ss "args" 1733,ss "targs" 1734,ss "margs" 1735,ss "i" 1736,ss "flags" 1737,ss "kinds" 1738]
def Og:=rW "bounds_kept" (st 172)
def FY:=kW "bounds_kept" 1728 895 5 906 1739 1740
def F0:=uW "bounds_kept" (st 172) jL 911
def Oh:=tZ [ss "host" 1745,ss "store" 1746,ss "k" 1747,ss "begun" 1748,ss "checked" 1749,ss "todo" 1750,ss "at" 1751,ss "fault" 1752,ss "part" 1753]
def Oi:=rW "check_kind" (st 173)
def F1:=kW "check_kind" 1742 901 3 913 1754 1755
def F3:=uW "check_kind" (st 173) jL 918
def Oj:=tZ [ss "store" 1760,ss "k" 1761,ss "sort" 1762,ss "tid" 1763]
def Ok:=rW "check_definition" (st 174)
def F4:=kW "check_definition" 1757 921 2 920 1764 1765
def F5:=uW "check_definition" (st 174) jL 925
def Ol:=tZ [ss "host" 1770,ss "store" 1771,ss "k" 1772,ss "sort" 1773,ss "row" 1774,ss "args" 1775,ss "t" 1776]
def Om:=rW "check_arguments" (st 175)
def F6:=kW "check_arguments" 1767 929 3 927 1777 1778
def F7:=uW "check_arguments" (st 175) jL 932
def On:=tZ [ss "host" 1783,ss "store" 1784,ss "owner" 1785,ss "mid" 1786,ss "margs" 1787,ss "m" 1788,ss "a" 1789,ss "fault" 1790]
def Oo:=rW "check_margs" (st 176)
def F8:=kW "check_margs" 1780 943 5 934 1791 1792
def F9:=uW "check_margs" (st 176) jL 939
def Op:=tZ [ss "host" 1799,ss "mref" 1800]
def Oq:=rW "store_met" (st 178)
def Fa:=kW "store_met" 1796 957 2 941 1801 1802
def Fb:=uW "store_met" (st 178) jM 946
def Os:=tZ [ss "store" 1809,ss "a" 1810,ss "b" 1811,ss "c" 1812,ss "kt" 1813,ss "home" 1814,ss "asms" 1815,ss "kept" 1816,ss "bases" 1817,ss "homes" 1818,ss "kinds" 1819,ss "i" 1820,ss "base" 1821,ss "words" 1822,ss "t" 1823]
def Ot:=rW "_law_types" (st 180)
def Fc:=kW "_law_types" 1806 963 4 948 1824 1825
def Fd:=uW "_law_types" (st 180) jN 953
def Ou:=tZ [ss "rows" 1830,ss "out" 1831,ss "i" 1832,ss "line" 1833]
def Ov:=rW "_law_ups" (st 181)
def Fe:=kW "_law_ups" 1827 989 1 955 1834 1835
def lg:=uW "_law_ups" (st 181) jN 960
def Ow:=tZ [ss "store" 1840,ss "world" 1841,ss "a" 1842,ss "b" 1843,ss "c" 1844,ss "ups" 1845,ss "kinds" 1846,ss "plan" 1847,ss "out" 1848,ss "owner" 1849,ss "access" 1850,ss "flags" 1851,ss "sort" 1852,ss "name" 1853,ss "mid" 1854,ss "m" 1855,ss "own" 1856,ss "here" 1857]
def Ox:=rW "_law_methods" (st 182)
def Ff:=kW "_law_methods" 1837 997 5 962 1858 1859
def Fg:=uW "_law_methods" (st 182) jN 967
def Oy:=tZ [ss "ups" 1864,ss "lines" 1865,ss "asms" 1866,ss "asker" 1867,ss "row" 1868,ss "thing" 1869,ss "site" 1870,ss "beside" 1871,ss "kin" 1872]
def Oz:=rW "_law_sees" (st 183)
def Fh:=kW "_law_sees" 1861 1017 6 969 1873 1874
def Fi:=uW "_law_sees" (st 183) jN 974
def PA:=tZ [ss "lines" 1879,ss "asms" 1880,ss "kept" 1881,ss "asker" 1882,ss "place" 1883,ss "at" 1884]
def PB:=rW "_law_named" (st 184)
def Fj:=kW "_law_named" 1876 1028 5 976 1885 1886
def nZ:=uW "_law_named" (st 184) jN 981
def PC:=tZ [ss "kt" 1891,ss "kinds" 1892,ss "place" 1893,ss "form" 1894,ss "k" 1895]
def PD:=rW "_law_through" (st 185)
def Fk:=kW "_law_through" 1888 1033 4 983 1896 1897
def Fl:=uW "_law_through" (st 185) jN 988
def PE:=tZ [ss "cx" 1902,ss "world" 1903,ss "methods" 1904,ss "asker" 1905,ss "owner" 1906,ss "place" 1907,ss "form" 1908,ss "x" 1909,ss "asms" 1910,ss "kept" 1911,ss "bases" 1912,ss "homes" 1913,ss "kinds" 1914,ss "ups" 1915,ss "lines" 1916,ss "store" 1917,ss "through" 1918,ss "thing" 1919,ss "arg" 1920,ss "at" 1921,ss "bright" 1922,ss "those" 1923,ss "hidden" 1924,ss "row" 1925,ss "sees" 1926,ss "mref" 1927,ss "told" 1928]
def PF:=rW "_law_ask" (st 186)
def Fn:=kW "_law_ask" 1899 1052 8 990 1929 1930
def sJ:=uW "_law_ask" (st 186) jN 995
def PG:=tZ [ss "ups" 1935,ss "x" 1936,ss "y" 1937,ss "c" 1938]
def AH:=rW "_law_meets" (st 187)
def sK:=kW "_law_meets" 1932 1078 4 997 1939 1940
def lh:=uW "_law_meets" (st 187) jN 1002
def AI:=rW "_law_bound" (st 188)
def sL:Obj:=⟨.type "code",none,.fields (#[ss "_law_bound" 1942,ss "_law_bound" 1943,ss "/claim/cut.py" 1944,ii 1090 0,ii 6 0,ii 0 0,ii 0 0,ii 3 0,rr 1004,.bool true,ii 181 0,rr 1005,.none,.none,.none,rr 1006,ii 1945 0,ii 1090 0,ss "/claim/cut.py" 1946]),#[]⟩
def li:=uW "_law_bound" (st 188) jN 1007
def AJ:=rW "law" (st 189)
def sM:Obj:=⟨.type "code",none,.fields (#[ss "law" 1948,ss "law" 1949,ss "/claim/cut.py" 1950,ii 1101 0,ii 1 0,ii 0 0,ii 0 0,ii 3 0,rr 1009,.bool true,ii 181 0,rr 1010,.none,.none,.none,rr 1011,ii 1951 0,ii 1101 0,ss "/claim/cut.py" 1952]),#[]⟩
def sN:=uW "law" (st 189) jN 1012
noncomputable def Ur(P:Params):Obj:=⟨.none,none,.dict (List.toArray []) 0,#[]⟩
def cD(P:Params):Obj:=⟨.none,none,.dict (List.toArray [en P "type.__subclasses__.Exception.0" 231 (ii 38 0),en P "type.__subclasses__.Exception.n" 232 (ii 1 0)]) 2,#[]⟩
noncomputable def PH(P:Params):Obj:=⟨.none,none,.plain,#[]⟩
def PI(P:Params):Obj:=⟨.type "type",none,.cls (cd "RuneError" [.type "Exception"] [rr 38,.type "Exception",.type "BaseException",.type "object"] 37 "RuneError" true [] false none false),#[some (rr 22),none,some (ss "RuneError" 204),some (ss "RuneError" 212),some (.builtin "Exception.__new__"),some (.bool true)]⟩
def az(P:Params):Obj:=⟨.type "type",none,.cls (cd "RuneError" [.type "Exception"] [rr 38,.type "Exception",.type "BaseException",.type "object"] 37 "RuneError" true [rr 51] false none false),#[some (rr 22),none,some (ss "RuneError" 204),some (ss "RuneError" 212),some (.builtin "Exception.__new__"),some (.bool true)]⟩
def gls(P:Params):List DictEntry:=[en P "__doc__" 166 (.none),
 en P "__package__" 167 (.none),
 en P "__loader__" 168 (.builtin "__main__.__loader__#opaque"),
 en P "__spec__" 169 (.none),
 en P "__annotations__" 170 (rr 6),
 en P "__builtins__" 171 (rr 4),
 en P "__file__" 173 (ss "/claim/cut.py" 172),
 en P "__cached__" 174 (.none),
 en P "_wall" 193 (rr 21),
 en P "LF_NOTYPE" 197 (ii 1 196),
 en P "LF_BOUND" 199 (ii 8 198),
 en P "LF_COUNT" 201 (ii 9 200),
 en P "LF_KIND" 203 (ii 15 202),
 en P "RuneError" 234 (rr 38),
 en P "BadKind" 250 (rr 51),
 en P "VOID" 254 (ii 0 253),
 en P "BOOL" 256 (ii 1 255),
 en P "CHAR" 258 (ii 2 257),
 en P "I1" 260 (ii 3 259),
 en P "U1" 262 (ii 4 261),
 en P "I2" 264 (ii 5 263),
 en P "U2" 266 (ii 6 265),
 en P "I4" 268 (ii 7 267),
 en P "U4" 270 (ii 8 269),
 en P "I8" 272 (ii 9 271),
 en P "U8" 274 (ii 10 273),
 en P "NINT" 276 (ii 11 275),
 en P "OBJECT" 278 (ii 12 277),
 en P "STRING" 280 (ii 13 279),
 en P "NULLK" 282 (ii 14 281),
 en P "BAD" 284 (ii 15 283),
 en P "PRIM_END" 286 (ii 16 285),
 en P "R_PRIM" 288 (ii 1 287),
 en P "R_CLASS" 290 (ii 2 289),
 en P "R_VALUE" 292 (ii 3 291),
 en P "R_ARRAY" 294 (ii 4 293),
 en P "R_BYREF" 296 (ii 5 295),
 en P "R_VAR" 298 (ii 6 297),
 en P "R_MVAR" 300 (ii 7 299),
 en P "R_BOXED" 302 (ii 8 301),
 en P "R_ROREF" 304 (ii 9 303),
 en P "R_FTN" 306 (ii 10 305),
 en P "R_RAW" 308 (ii 11 307),
 en P "DEEPEST_KIND" 310 (ii 24 309),
 en P "HEAVIEST_KIND" 312 (ii 4096 311),
 en P "PRIM_TID" 341 (rr 54),
 en P "TID_PRIM" 370 (rr 55),
 en P "ARRAY_TID" 372 (ii 5 371),
 en P "NULLABLE_TID" 374 (ii 8 373),
 en P "KindTable" 431 (rr 86),
 en P "inner_kinds" 439 (rr 97),
 en P "row_level" 446 (rr 104),
 en P "row_length" 453 (rr 111),
 en P "check_kind_row" 463 (rr 118),
 en P "check_named" 471 (rr 125),
 en P "check_args" 480 (rr 132),
 en P "may_stand" 489 (rr 139),
 en P "class_kind" 498 (rr 146),
 en P "value_kind" 507 (rr 153),
 en P "prim_kind" 515 (rr 160),
 en P "var_kind" 523 (rr 167),
 en P "boxed_kind" 531 (rr 174),
 en P "kind_sort" 539 (rr 181),
 en P "elem_of" 548 (rr 188),
 en P "tid_of" 557 (rr 195),
 en P "args_of" 566 (rr 202),
 en P "is_value" 574 (rr 209),
 en P "is_ref" 583 (rr 216),
 en P "is_var" 592 (rr 223),
 en P "close" 602 (rr 230),
 en P "close_in" 616 (rr 237),
 en P "with_inner" 626 (rr 244),
 en P "box_of" 634 (rr 251),
 en P "pick_arg" 643 (rr 258),
 en P "close_all" 655 (rr 265),
 en P "S_CLASS" 659 (ii 1 658),
 en P "S_STRUCT" 661 (ii 2 660),
 en P "S_IFACE" 663 (ii 3 662),
 en P "S_ENUM" 665 (ii 5 664),
 en P "TF_ABSTRACT" 667 (ii 1 666),
 en P "TF_INTERNAL" 669 (ii 8 668),
 en P "VA_NONE" 671 (ii 0 670),
 en P "VA_IN" 673 (ii 2 672),
 en P "GB_CLASS" 675 (ii 1 674),
 en P "GB_STRUCT" 677 (ii 2 676),
 en P "GB_NEW" 679 (ii 4 678),
 en P "MF_STATIC" 681 (ii 1 680),
 en P "MF_VIRTUAL" 683 (ii 2 682),
 en P "MF_NEWSLOT" 685 (ii 4 684),
 en P "MF_CTOR" 687 (ii 32 686),
 en P "MF_CCTOR" 689 (ii 64 688),
 en P "MF_SPECIAL" 691 (ii 128 690),
 en P "T_OBJECT" 693 (ii 1 692),
 en P "T_VALUETYPE" 695 (ii 2 694),
 en P "T_ENUM" 697 (ii 3 696),
 en P "T_ARRAY" 699 (ii 5 698),
 en P "T_NULLABLE" 701 (ii 8 700),
 en P "TypeDef" 755 (rr 282),
 en P "MethodDef" 803 (rr 303),
 en P "Store" 837 (rr 324),
 en P "plain_names" 846 (rr 335),
 en P "type_of" 855 (rr 342),
 en P "find_methods" 866 (rr 349),
 en P "base_of" 877 (rr 356),
 en P "base_of_prim" 885 (rr 363),
 en P "ifaces_of" 896 (rr 370),
 en P "is_ctor" 903 (rr 377),
 en P "A_PRIVATE" 905 (ii 1 904),
 en P "A_FAMANDASM" 907 (ii 2 906),
 en P "A_ASSEMBLY" 909 (ii 3 908),
 en P "A_FAMILY" 911 (ii 4 910),
 en P "A_FAMORASM" 913 (ii 5 912),
 en P "A_PUBLIC" 915 (ii 6 914),
 en P "VALUE_ROOTS" 918 (rr 378),
 en P "SIGNED_TWIN" 923 (rr 379),
 en P "bound_kinds" 936 (rr 386),
 en P "param_is_value" 945 (rr 393),
 en P "param_has_new" 953 (rr 400),
 en P "surely_class" 962 (rr 407),
 en P "is_iface" 970 (rr 414),
 en P "base_chain" 980 (rr 421),
 en P "all_ifaces" 991 (rr 428),
 en P "add_ifaces" 1004 (rr 435),
 en P "stands_for_ref" 1012 (rr 442),
 en P "reduced" 1021 (rr 449),
 en P "is_nullable" 1029 (rr 456),
 en P "type_seen" 1042 (rr 463),
 en P "named_type" 1050 (rr 470),
 en P "kind_seen" 1065 (rr 477),
 en P "derives" 1076 (rr 484),
 en P "through_tid" 1086 (rr 491),
 en P "homes_of" 1097 (rr 498),
 en P "family_seen" 1107 (rr 505),
 en P "seen_at" 1119 (rr 512),
 en P "member_seen" 1131 (rr 519),
 en P "mref_seen" 1147 (rr 526),
 en P "member_in_sight" 1159 (rr 533),
 en P "mid_seen" 1169 (rr 540),
 en P "is_explicit" 1179 (rr 547),
 en P "is_override" 1185 (rr 552),
 en P "has_slot" 1196 (rr 559),
 en P "methods_here" 1211 (rr 566),
 en P "StoreHost" 1300 (rr 625),
 en P "store_under" 1309 (rr 636),
 en P "store_variance" 1317 (rr 643),
 en P "store_has_new" 1328 (rr 650),
 en P "loose_base" 1339 (rr 657),
 en P "loose_ifaces" 1345 (rr 662),
 en P "MOST_QUESTIONS" 1347 (ii 512 1346),
 en P "Book" 1379 (rr 679),
 en P "ref_assignable" 1388 (rr 690),
 en P "source_assignable" 1397 (rr 697),
 en P "assign_settled" 1408 (rr 704),
 en P "settle_book" 1418 (rr 711),
 en P "has_proof" 1427 (rr 718),
 en P "assign_within" 1438 (rr 725),
 en P "assign_look" 1450 (rr 732),
 en P "param_within" 1462 (rr 739),
 en P "var_within" 1479 (rr 746),
 en P "inner_within" 1490 (rr 753),
 en P "elems_within" 1500 (rr 760),
 en P "Diags" 1554 (rr 796),
 en P "Unit" 1594 (rr 817),
 en P "Yard" 1674 (rr 866),
 en P "yard_kept" 1683 (rr 877),
 en P "surely_value" 1693 (rr 884),
 en P "bound_met" 1706 (rr 891),
 en P "goes_to_bound" 1716 (rr 898),
 en P "fits_bound" 1727 (rr 905),
 en P "bounds_kept" 1741 (rr 912),
 en P "check_kind" 1756 (rr 919),
 en P "check_definition" 1766 (rr 926),
 en P "check_arguments" 1779 (rr 933),
 en P "check_margs" 1793 (rr 940),
 en P "store_met" 1803 (rr 947),
 en P "_law_types" 1826 (rr 954),
 en P "_law_ups" 1836 (rr 961),
 en P "_law_methods" 1860 (rr 968),
 en P "_law_sees" 1875 (rr 975),
 en P "_law_named" 1887 (rr 982),
 en P "_law_through" 1898 (rr 989),
 en P "_law_ask" 1931 (rr 996),
 en P "_law_meets" 1941 (rr 1003),
 en P "_law_bound" 1947 (rr 1008),
 en P "law" 1953 (rr 1013)]
def Us(P:Params)(k:Nat)(nm:Value):Obj:=⟨.type "dict",none,.dict (List.toArray (en P "__name__" 165 nm::(gls P).take (k - 1))) k,#[]⟩
noncomputable def cfs:List Value:=[ii 1 0,ii 0 0,rr 20,ii 9 0,ii 0 0,rr 27,ii 14 0,ii 0 0,rr 47,ii 51 0,ii 0 0,rr 61,ii 100 0,ii 0 0,rr 96,ii 109 0,ii 0 0,rr 103,ii 113 0,ii 0 0,rr 110,ii 119 0,ii 0 0,rr 117,ii 141 0,ii 0 0,rr 124,ii 145 0,ii 0 0,rr 131,ii 149 0,ii 0 0,rr 138,ii 154 0,ii 0 0,rr 145,ii 158 0,ii 0 0,rr 152,ii 162 0,ii 0 0,rr 159,ii 166 0,ii 0 0,rr 166,ii 168 0,ii 0 0,rr 173,ii 170 0,ii 0 0,rr 180,ii 172 0,ii 0 0,rr 187,ii 177 0,ii 0 0,rr 194,ii 186 0,ii 0 0,rr 201,ii 191 0,ii 0 0,rr 208,ii 195 0,ii 0 0,rr 215,ii 200 0,ii 0 0,rr 222,ii 203 0,ii 0 0,rr 229,ii 208 0,ii 0 0,rr 236,ii 223 0,ii 0 0,rr 243,ii 232 0,ii 0 0,rr 250,ii 240 0,ii 0 0,rr 257,ii 244 0,ii 0 0,rr 264,ii 272 0,ii 0 0,rr 271,ii 298 0,ii 0 0,rr 292,ii 315 0,ii 0 0,rr 313,ii 325 0,ii 0 0,rr 334,ii 330 0,ii 0 0,rr 341,ii 335 0,ii 0 0,rr 348,ii 341 0,ii 0 0,rr 355,ii 360 0,ii 0 0,rr 362,ii 366 0,ii 0 0,rr 369,ii 377 0,ii 0 0,rr 376,ii 388 0,ii 0 0,rr 385,ii 402 0,ii 0 0,rr 392,ii 412 0,ii 0 0,rr 399,ii 414 0,ii 0 0,rr 406,ii 421 0,ii 0 0,rr 413,ii 423 0,ii 0 0,rr 420,ii 431 0,ii 0 0,rr 427,ii 437 0,ii 0 0,rr 434,ii 447 0,ii 0 0,rr 441,ii 449 0,ii 0 0,rr 448,ii 452 0,ii 0 0,rr 455,ii 455 0,ii 0 0,rr 462,ii 463 0,ii 0 0,rr 469,ii 467 0,ii 0 0,rr 476,ii 491 0,ii 0 0,rr 483,ii 502 0,ii 0 0,rr 490,ii 510 0,ii 0 0,rr 497,ii 521 0,ii 0 0,rr 504,ii 527 0,ii 0 0,rr 511,ii 542 0,ii 0 0,rr 518,ii 547 0,ii 0 0,rr 525,ii 560 0,ii 0 0,rr 532,ii 564 0,ii 0 0,rr 539,ii 569 0,ii 0 0,rr 546,ii 576 0,ii 0 0,rr 551,ii 590 0,ii 0 0,rr 558,ii 596 0,ii 0 0,rr 565,ii 611 0,ii 0 0,rr 572,ii 649 0,ii 0 0,rr 635,ii 656 0,ii 0 0,rr 642,ii 660 0,ii 0 0,rr 649,ii 673 0,ii 0 0,rr 656,ii 684 0,ii 0 0,rr 661,ii 690 0,ii 0 0,rr 668,ii 697 0,ii 0 0,rr 689,ii 699 0,ii 0 0,rr 696,ii 701 0,ii 0 0,rr 703,ii 707 0,ii 0 0,rr 710,ii 715 0,ii 0 0,rr 717,ii 722 0,ii 0 0,rr 724,ii 738 0,ii 0 0,rr 731,ii 752 0,ii 0 0,rr 738,ii 760 0,ii 0 0,rr 745,ii 778 0,ii 0 0,rr 752,ii 785 0,ii 0 0,rr 759,ii 792 0,ii 0 0,rr 766,ii 807 0,ii 0 0,rr 806,ii 820 0,ii 0 0,rr 827,ii 848 0,ii 0 0,rr 876,ii 854 0,ii 0 0,rr 883,ii 858 0,ii 0 0,rr 890,ii 874 0,ii 0 0,rr 897,ii 878 0,ii 0 0,rr 904,ii 895 0,ii 0 0,rr 911,ii 901 0,ii 0 0,rr 918,ii 921 0,ii 0 0,rr 925,ii 929 0,ii 0 0,rr 932,ii 943 0,ii 0 0,rr 939,ii 957 0,ii 0 0,rr 946,ii 963 0,ii 0 0,rr 953,ii 989 0,ii 0 0,rr 960,ii 997 0,ii 0 0,rr 967,ii 1017 0,ii 0 0,rr 974,ii 1028 0,ii 0 0,rr 981,ii 1033 0,ii 0 0,rr 988,ii 1052 0,ii 0 0,rr 995,ii 1078 0,ii 0 0,rr 1002,ii 1090 0,ii 0 0,rr 1007,ii 1101 0,ii 0 0,rr 1012]
noncomputable def PJ(k:Nat):Obj:=⟨.none,none,.fields (List.toArray (cfs.take k)),#[]⟩
noncomputable def o3:Obj:=.mk .none none .plain #[]
def o2:=o3
def o12:=o3
def o38:=o3
def TT(P:Params):BT:=(N (o0 P) (N (o1 P) (N o3 (N (o7 P) (N EZ (N Y8 (N EZ (N FZ (N EZ (N DM Z Z) (N No Z Z)) (N EZ (N Mz Z Z) (N EZ Z Z))) (N KF (N Ky (N FZ Z Z) (N OO Z Z)) (N Ln (N EP Z Z) (N Ov Z Z)))) (N Yw (N BY (N EZ (N MW Z Z) (N Ny Z Z)) (N EZ (N FZ Z Z) (N EZ Z Z))) (N Bj (N FZ (N Di Z Z) (N FJ Z Z)) (N FZ (N Nd Z Z) (N FZ Z Z))))) (N U8 (N Yp (N EZ (N Bx (N EZ Z Z) (N FZ Z Z)) (N Cd (N NE Z Z) (N FY Z Z))) (N KL (N CV (N EZ Z Z) (N OU Z Z)) (N Cy (N EZ Z Z) (N Fi Z Z)))) (N BK (N EZ (N CJ (N D6 Z Z) (N OG Z Z)) (N Li (N EZ Z Z) (N Op Z Z))) (N FZ (N EZ (N Mu Z Z) (N FZ Z Z)) (N EZ (N Nj Z Z) (N sL Z Z)))))) (N Y5 (N U6 (N FZ (N Jo (N Kc (N DP Z Z) (N EZ Z Z)) (N LX (N EZ Z Z) (N Oe Z Z))) (N EZ (N LA (N Mh Z Z) (N EZ Z Z)) (N Cu (N ES Z Z) (N Ff Z Z)))) (N BH (N B2 (N FZ (N DZ Z Z) (N OD Z Z)) (N FZ (N EH Z Z) (N FZ Z Z))) (N EZ (N LM (N Dl Z Z) (N EZ Z Z)) (N MA (N EZ Z Z) (N PG Z Z))))) (N Uc (N Un (N Jt (N Bz (N FZ Z Z) (N Nw Z Z)) (N Cg (N EZ Z Z) (N F3 Z Z))) (N Bg (N EZ (N Mm Z Z) (N FE Z Z)) (N EZ (N FZ Z Z) (N EZ Z Z)))) (N EZ (N FZ (N EZ (N EZ Z Z) (N OK Z Z)) (N EZ (N NS Z Z) (N EZ Z Z))) (N KY (N LR (N FZ Z Z) (N O9 Z Z)) (N MF (N E7 Z Z) Z)))))) (N EZ (N Y3 (N U4 (N Ym (N BP (N EZ (N MI Z Z) (N EZ Z Z)) (N EZ (N Dv Z Z) (N EZ Z Z))) (N Bb (N (CQ P) (N Da Z Z) (N Ez Z Z)) (N FZ (N NV Z Z) (N FZ Z Z)))) (N FZ (N Jw (N Kn (N o547 Z Z) (N (En P) Z Z)) (N Lf (N EE Z Z) (N Om Z Z))) (N EZ (N CZ (N Mp Z Z) (N FM Z Z)) (N DD (N E2 Z Z) (N Fn Z Z))))) (N Ua (N Uk (N EZ (N Kh (N MP Z Z) (N Ef Z Z)) (N La (N FZ Z Z) (N Oh Z Z))) (N FZ (N EZ (N EZ Z Z) (N FZ Z Z)) (N EZ (N Na Z Z) (N EZ Z Z)))) (N EZ (N KC (N Kt (N EZ Z Z) (N Ev Z Z)) (N Cp (N EZ Z Z) (N Fb Z Z))) (N Bo (N EZ (N Dr Z Z) (N FQ Z Z)) (N EZ (N FZ Z Z) (N AJ Z Z)))))) (N U2 (N Ye (N Uh (N BS (N Kd (N EZ Z Z) (N Nt Z Z)) (N FZ (N EZ Z Z) (N FZ Z Z))) (N EZ (N LC (N Dd Z Z) (N EZ Z Z)) (N Lq (N EZ Z Z) (N Oy Z Z)))) (N Jg (N EZ (N CG (N MZ Z Z) (N EZ Z Z)) (N Cm (N NO Z Z) (N F8 Z Z))) (N KU (N C2 (N EZ Z Z) (N O6 Z Z)) (N DG (N EZ Z Z) (N lh Z Z))))) (N EZ (N EZ (N FZ (N CC (N DW Z Z) (N (Ej P) Z Z)) (N EZ (N NH Z Z) (N EZ Z Z))) (N KP (N LJ (N FZ Z Z) (N OX Z Z)) (N Lx (N EX Z Z) (N PD Z Z)))) (N Jl (N B8 (N EZ (N Md Z Z) (N Ex Z Z)) (N EZ (N FZ Z Z) (N EZ Z Z))) (N Br (N C8 (N Ds Z Z) (N FT Z Z)) (N FZ (N (E9 P) Z Z) Z))))))) (N (o5 P) (N (o9 P) (N Y2 (N Y9 (N Yl (N EZ (N Bs (N EZ Z Z) (N FZ Z Z)) (N C9 (N NA Z Z) (N FU Z Z))) (N KG (N CP (N EZ Z Z) (N OP Z Z)) (N Ct (N EZ Z Z) (N lg Z Z)))) (N Uq (N EZ (N (CE P) (N MX Z Z) (N EZ Z Z)) (N Le (N EZ Z Z) (N Ol Z Z))) (N FZ (N EZ (N EZ Z Z) (N (FK P) Z Z)) (N EZ (N Nf Z Z) (N EZ Z Z))))) (N EZ (N Yq (N BU (N EZ (N MN Z Z) (N EZ Z Z)) (N EZ (N Dz Z Z) (N EZ Z Z))) (N Bf (N FZ (N De Z Z) (N FD Z Z)) (N FZ (N NZ Z Z) (N FZ Z Z)))) (N FZ (N KA (N CL (N FZ Z Z) (N Et Z Z)) (N Lj (N EL Z Z) (N Oq Z Z))) (N EZ (N C3 (N Dp Z Z) (N EZ Z Z)) (N DH (N E6 Z Z) (N EZ Z Z)))))) (N EZ (N Yc (N EZ (N Jp (N Bv (N FZ Z Z) (N Nr Z Z)) (N Cc (N Dw Z Z) (N FX Z Z))) (N Bc (N EZ (N Mi Z Z) (N FA Z Z)) (N EZ (N FZ Z Z) (N EZ Z Z)))) (N EZ (N FZ (N EZ (N EZ Z Z) (N FZ Z Z)) (N EZ (N EK Z Z) (N EZ Z Z))) (N KT (N LN (N FZ Z Z) (N O5 Z Z)) (N MB (N E3 Z Z) (N AH Z Z))))) (N Yi (N Ys (N BX (N (CA P) (N EZ Z Z) (N Ei Z Z)) (N FZ (N (EC P) Z Z) (N FZ Z Z))) (N EZ (N LI (N Dh Z Z) (N EZ Z Z)) (N Lw (N EZ Z Z) (N PC Z Z)))) (N Jk (N EZ (N CN (N (D8 P) Z Z) (N EZ Z Z)) (N Cq (N EO Z Z) (N Fc Z Z))) (N KZ (N C6 (N EZ Z Z) (N Oa Z Z)) (N DK (N EZ Z Z) Z)))))) (N Y0 (N U0 (N (U5 P) (N Ug (N EZ (N Kb (N MJ Z Z) (N Eb Z Z)) (N LW (N FZ Z Z) (N Od Z Z))) (N FZ (N CS (N EZ Z Z) (N FZ Z Z)) (N EZ (N NW Z Z) (N EZ Z Z)))) (N EZ (N Jx (N Ko (N FZ Z Z) (N OC Z Z)) (N Ck (N NL Z Z) (N F7 Z Z))) (N Bk (N EZ (N Mq Z Z) (N O3 Z Z)) (N EZ (N FZ Z Z) (N EZ Z Z))))) (N Yh (N (Ul P) (N Js (N Ki (N DV Z Z) (N EZ Z Z)) (N Lb (N EA Z Z) (N Oi Z Z))) (N EZ (N CW (N Ml Z Z) (N EZ Z Z)) (N Cz (N EW Z Z) (N Fj Z Z)))) (N BL (N B7 (N Ku (N D7 Z Z) (N OJ Z Z)) (N FZ (N NR Z Z) (N FZ Z Z))) (N EZ (N LQ (N Mw Z Z) (N EZ Z Z)) (N ME (N EZ Z Z) (N sN Z Z)))))) (N EZ (N EZ (N EZ (N FZ (N EZ (N DR Z Z) (N Ee Z Z)) (N EZ (N ND Z Z) (N EZ Z Z))) (N KJ (N LD (N FZ Z Z) (N OT Z Z)) (N Lr (N ET Z Z) (N Oz Z Z)))) (N Jh (N B4 (N Kr (N M0 Z Z) (N Ep Z Z)) (N EZ (N FZ Z Z) (N EZ Z Z))) (N Bn (N FZ (N Dm Z Z) (N FP Z Z)) (N FZ (N Ni Z Z) (N FZ Z Z))))) (N Ue (N Yu (N EZ (N Kk (N EZ Z Z) (N El Z Z)) (N Ch (N NI Z Z) (N F4 Z Z))) (N KQ (N o349 (N EZ Z Z) (N OY Z Z)) (N DC (N EZ Z Z) (N Fl Z Z)))) (N BO (N EZ (N Kx (N Me Z Z) (N EZ Z Z)) (N Lm (N EZ Z Z) (N Ou Z Z))) (N FZ (N FZ (N EZ Z Z) (N FZ Z Z)) (N EZ (N Nn Z Z) Z)))))))) (N o3 (N (o4 P) (N (o8 P) (N FZ (N EZ (N FZ (N Jm (N Ka (N DN Z Z) (N EZ Z Z)) (N LV (N EZ Z Z) (N Oc Z Z))) (N EZ (N CO (N Mf Z Z) (N EZ Z Z)) (N Cs (N EQ Z Z) (N Fe Z Z)))) (N Up (N BZ (N Km (N EZ Z Z) (N Nz Z Z)) (N FZ (N NJ Z Z) (N FZ Z Z))) (N EZ (N LK (N Dj Z Z) (N OZ Z Z)) (N Ly (N EZ Z Z) (N PE Z Z))))) (N Yf (N EZ (N Jr (N Kg (N FZ Z Z) (N Nu Z Z)) (N Ce (N Dy Z Z) (N F0 Z Z))) (N Be (N EZ (N Mk Z Z) (N FC Z Z)) (N EZ (N FZ Z Z) (N EZ Z Z)))) (N EZ (N FZ (N CK (N EZ Z Z) (N (Es P) Z Z)) (N EZ (N NQ Z Z) (N EZ Z Z))) (N KV (N LP (N (Do P) Z Z) (N O7 Z Z)) (N MD (N E5 Z Z) (N li Z Z)))))) (N (U1 P) (N Yb (N Yn (N EZ (N Bu (N EZ Z Z) (N FZ Z Z)) (N Cb (N NC Z Z) (N FW Z Z))) (N KI (N LB (N EZ Z Z) (N OS Z Z)) (N Cv (N EZ Z Z) (N Fg Z Z)))) (N BI (N EZ (N Kp (N D4 Z Z) (N EZ Z Z)) (N Lg (N EJ Z Z) (N On Z Z))) (N FZ (N EZ (N EZ Z Z) (N FZ Z Z)) (N EZ (N Nh Z Z) (N EZ Z Z))))) (N EZ (N Uo (N BW (N Kj (N MQ Z Z) (N Eh Z Z)) (N EZ (N NG Z Z) (N EZ Z Z))) (N Bh (N FZ (N Dg Z Z) (N FF Z Z)) (N FZ (N Nb Z Z) (N FZ Z Z)))) (N FZ (N KD (N Kv (N Mc Z Z) (N (Ew P) Z Z)) (N Ll (N EN Z Z) (N Ot Z Z))) (N EZ (N C5 (N Mx Z Z) (N EZ Z Z)) (N DJ (N E8 Z Z) Z)))))) (N o3 (N UZ (N Ya (N Uf (N BQ (N FZ (N EZ Z Z) (N Nq Z Z)) (N FZ (N EZ Z Z) (N FZ Z Z))) (N EZ (N CR (N Db Z Z) (N EZ Z Z)) (N Lo (N EZ Z Z) (N Ow Z Z)))) (N Je (N EZ (N CF (N EZ Z Z) (N EZ Z Z)) (N Cj (N EF Z Z) (N F6 Z Z))) (N KS (N C0 (N EZ Z Z) (N FN Z Z)) (N DE (N EZ Z Z) (N sJ Z Z))))) (N Yg (N Yr (N FZ (N EZ (N DU Z Z) (N Eg Z Z)) (N EZ (N NF Z Z) (N EZ Z Z))) (N KM (N LH (N FZ Z Z) (N OV Z Z)) (N Lu (N EV Z Z) (N PB Z Z)))) (N Jj (N B6 (N EZ (N Mb Z Z) (N OH Z Z)) (N EZ (N FZ Z Z) (N EZ Z Z))) (N Bp (N FZ (N Mv Z Z) (N FR Z Z)) (N FZ (N Nk Z Z) (N sM Z Z)))))) (N Y7 (N (U7 P) (N Ui (N EZ (N (Bw P) (N MM Z Z) (N Ed Z Z)) (N LY (N FZ Z Z) (N Of Z Z))) (N FZ (N EZ (N EZ Z Z) (N FZ Z Z)) (N EZ (N NY Z Z) (N EZ Z Z)))) (N EZ (N Jz (N CH (N EZ Z Z) (N OF Z Z)) (N Cn (N EZ Z Z) (N F9 Z Z))) (N Bm (N EZ (N Ms Z Z) (N FO Z Z)) (N EZ (N FZ Z Z) (N EZ Z Z))))) (N Yj (N FZ (N Ju (N CD (N DX Z Z) (N Ek Z Z)) (N Ld (N ED Z Z) (N Ok Z Z))) (N EZ (N CY (N Mn Z Z) (N EZ Z Z)) (N DB (N EY Z Z) (N Fk Z Z)))) (N BN (N B9 (N FZ (N D9 Z Z) (N ON Z Z)) (N FZ (N NT Z Z) (N FZ Z Z))) (N EZ (N EZ (N Dt Z Z) (N EZ Z Z)) (N MG (N EZ Z Z) Z))))))) (N (o6 P) (N (YZ P) (N EZ (N U3 (N EZ (N Jn (N Bt (N FZ Z Z) (N Np Z Z)) (N Ca (N Du Z Z) (N FV Z Z))) (N Ba (N Kz (N Mg Z Z) (N Ey Z Z)) (N EZ (N FZ Z Z) (N EZ Z Z)))) (N EZ (N FZ (N EZ (N DY Z Z) (N OB Z Z)) (N EZ (N NK Z Z) (N EZ Z Z))) (N KR (N LL (N FZ Z Z) (N FL Z Z)) (N Lz (N E1 Z Z) (N PF Z Z))))) (N (U9 P) (N Uj (N BV (N FZ (N EZ Z Z) (N Nv Z Z)) (N FZ (N EZ Z Z) (N FZ Z Z))) (N EZ (N LG (N Df Z Z) (N EZ Z Z)) (N Ls (N EZ Z Z) (N PA Z Z)))) (N Ji (N EZ (N Ks (N Ma Z Z) (N Eu Z Z)) (N Co (N EM Z Z) (N Fa Z Z))) (N KW (N C4 (N Dq Z Z) (N O8 Z Z)) (N DI (N EZ Z Z) (N FZ Z Z)))))) (N Y6 (N Yd (N Yo (N BR (N EZ (N ML Z Z) (N EZ Z Z)) (N EZ (N Dx Z Z) (N EZ Z Z))) (N Bd (N FZ (N Dc Z Z) (N FB Z Z)) (N FZ (N NX Z Z) (N FZ Z Z)))) (N FZ (N Jy (N Kq (N FZ Z Z) (N OE Z Z)) (N Lh (N NM Z Z) (N Oo Z Z))) (N EZ (N C1 (N Mr Z Z) (N EZ Z Z)) (N DF (N E4 Z Z) (N sK Z Z))))) (N (Ud P) (N Yt (N EZ (N CB (N MT Z Z) (N Nx Z Z)) (N Lc (N EZ Z Z) (N Oj Z Z))) (N FZ (N EZ (N EZ Z Z) (N FZ Z Z)) (N EZ (N Nc Z Z) (N EZ Z Z)))) (N EZ (N KE (N Kw (N EZ Z Z) (N OM Z Z)) (N Cr (N EZ Z Z) (N Fd Z Z))) (N Bq (N C7 (N My Z Z) (N FS Z Z)) (N EZ (N Nm Z Z) Z)))))) (N Y1 (N Y4 (N o3 (N EZ (N FZ (N EZ (N DO Z Z) (N Ec Z Z)) (N EZ (N NB Z Z) (N EZ Z Z))) (N KH (N CT (N FZ Z Z) (N OQ Z Z)) (N Lp (N ER Z Z) (N Ox Z Z)))) (N Jf (N B0 (N EZ (N MY Z Z) (N Eo Z Z)) (N EZ (N (EG P) Z Z) (N EZ Z Z))) (N Bl (N FZ (N Dk Z Z) (N O4 Z Z)) (N FZ (N Ng Z Z) (N FZ Z Z))))) (N Ub (N Um (N EZ (N By (N EZ Z Z) (N FZ Z Z)) (N Cf (N EB Z Z) (N F1 Z Z))) (N KO (N CX (N EZ Z Z) (N OW Z Z)) (N DA (N EZ Z Z) (N nZ Z Z)))) (N BM (N EZ (N (CM P) (N o566 Z Z) (N EZ Z Z)) (N Lk (N EZ Z Z) (N Os Z Z))) (N FZ (N EZ (N EZ Z Z) (N FZ Z Z)) (N EZ (N Nl Z Z) Z))))) (N FZ (N FZ (N FZ (N Jq (N Ke (N DS Z Z) (N EZ Z Z)) (N LZ (N EZ Z Z) (N Og Z Z))) (N EZ (N CU (N Mj Z Z) (N EZ Z Z)) (N Cw (N EU Z Z) (N Fh Z Z)))) (N BJ (N B5 (N (CI P) (N D5 Z Z) (N Er Z Z)) (N FZ (N NP Z Z) (N FZ Z Z))) (N EZ (N LO (N Dn Z Z) (N EZ Z Z)) (N MC (N EZ Z Z) (N AI Z Z))))) (N Yk (N EZ (N Jv (N Kl (N FZ Z Z) (N Em Z Z)) (N Ci (N EZ Z Z) (N F5 Z Z))) (N Bi (N EZ (N Mo Z Z) (N FH Z Z)) (N EZ (N FZ Z Z) (N EZ Z Z)))) (N EZ (N FZ (N EZ (N EZ Z Z) (N FZ Z Z)) (N EZ (N NU Z Z) (N EZ Z Z))) (N K9 (N LU (N FZ Z Z) (N Ob Z Z)) (N MH (N Ea Z Z) Z)))))))))
noncomputable def Fo(n:Nat):BT→Nat→Nat→BT
 | .nil,_,_=>.nil
 | .node v l r,a,b=>match Nat.blt b n with
  |true=>.node v (Fo n l (2 * a) (a+b)) (Fo n r (2 * a) (2 * a+b))
  |false=>.nil
def SS(P:Params)(os:OsState)(n tk:Nat)(a d:Obj)(k:Nat)(nm:Value)(c:Nat):SharedT:=⟨((((Fo n (TT P) 1 0).set 2 fun _=>a).set 3 fun _=>Us P k nm).set 12 fun _=>PJ c).set 38 fun _=>d,n,{},#[],{},tk,os⟩
noncomputable abbrev ev:Env:={scope:=pg.main.scope,locals:=mainNs,globals:=mainNs,cells:=[],code:=rr 13,frame:=some 14}
noncomputable abbrev bE:List Stmt:=behindTheImports pg
noncomputable abbrev cE:Code:=.body bE ev
noncomputable abbrev fp:Pos:=⟨0,0,0,0⟩
noncomputable def sl(a n:Nat):List Stmt:=(pg.main.body.drop a).take n
def S0(P:Params)(os:OsState):SharedT:=SS P os 15 187 (Ur P) (PH P) 9 jA 0
noncomputable abbrev p0:Pos:=⟨0,0,0,0⟩
def S1(P:Params)(os:OsState):SharedT:=SS P os 42 235 (cD P) (PI P) 15 jB 6
noncomputable abbrev p1:Pos:=⟨9,0,13,20⟩
def S2(P:Params)(os:OsState):SharedT:=SS P os 54 291 (cD P) (az P) 35 jC 9
noncomputable abbrev p2:Pos:=⟨35,0,35,7⟩
def S3(P:Params)(os:OsState):SharedT:=SS P os 54 313 (cD P) (az P) 46 jC 9
noncomputable abbrev p3:Pos:=⟨46,0,46,13⟩
def S4(P:Params)(os:OsState):SharedT:=SS P os 55 342 (cD P) (az P) 47 jC 9
noncomputable abbrev p4:Pos:=⟨47,0,47,8⟩
def S5(P:Params)(os:OsState):SharedT:=SS P os 56 371 (cD P) (az P) 48 jC 9
noncomputable abbrev p5:Pos:=⟨48,0,48,8⟩
def S6(P:Params)(os:OsState):SharedT:=SS P os 105 447 (cD P) (az P) 53 jC 18
noncomputable abbrev p6:Pos:=⟨109,0,112,12⟩
def S7(P:Params)(os:OsState):SharedT:=SS P os 196 558 (cD P) (az P) 66 jC 57
noncomputable abbrev p7:Pos:=⟨177,0,185,12⟩
def S8(P:Params)(os:OsState):SharedT:=SS P os 266 674 (cD P) (az P) 84 jD 87
noncomputable abbrev p8:Pos:=⟨257,0,257,5⟩
def S9(P:Params)(os:OsState):SharedT:=SS P os 287 756 (cD P) (az P) 99 jD 90
noncomputable abbrev p9:Pos:=⟨272,0,297,21⟩
def Yx(P:Params)(os:OsState):SharedT:=SS P os 308 804 (cD P) (az P) 100 jD 93
noncomputable abbrev Yy:Pos:=⟨298,0,314,23⟩
def ZA(P:Params)(os:OsState):SharedT:=SS P os 364 886 (cD P) (az P) 106 jD 111
noncomputable abbrev ZB:Pos:=⟨360,0,365,13⟩
def PK(P:Params)(os:OsState):SharedT:=SS P os 379 919 (cD P) (az P) 115 jE 117
noncomputable abbrev PL:Pos:=⟨386,0,386,11⟩
def PM(P:Params)(os:OsState):SharedT:=SS P os 380 924 (cD P) (az P) 116 jE 117
noncomputable abbrev PN:Pos:=⟨387,0,387,11⟩
def ZC(P:Params)(os:OsState):SharedT:=SS P os 464 1043 (cD P) (az P) 128 jF 153
noncomputable abbrev ZD:Pos:=⟨455,0,462,15⟩
def ZE(P:Params)(os:OsState):SharedT:=SS P os 541 1170 (cD P) (az P) 139 jG 186
noncomputable abbrev ZF:Pos:=⟨564,0,568,58⟩
def ZG(P:Params)(os:OsState):SharedT:=SS P os 567 1214 (cD P) (az P) 143 jH 198
noncomputable abbrev ZH:Pos:=⟨610,0,610,8⟩
def ZI(P:Params)(os:OsState):SharedT:=SS P os 630 1301 (cD P) (az P) 144 jH 201
noncomputable abbrev ZJ:Pos:=⟨611,0,648,43⟩
def ZK(P:Params)(os:OsState):SharedT:=SS P os 684 1380 (cD P) (az P) 151 jH 219
noncomputable abbrev ZL:Pos:=⟨690,0,696,24⟩
def ZM(P:Params)(os:OsState):SharedT:=SS P os 761 1503 (cD P) (az P) 162 jI 252
noncomputable abbrev ZN:Pos:=⟨791,0,791,8⟩
def ZO(P:Params)(os:OsState):SharedT:=SS P os 801 1557 (cD P) (az P) 163 jJ 255
noncomputable abbrev ZP:Pos:=⟨806,0,806,8⟩
def ZQ(P:Params)(os:OsState):SharedT:=SS P os 822 1597 (cD P) (az P) 164 jK 258
noncomputable abbrev ZR:Pos:=⟨819,0,819,8⟩
def ZS(P:Params)(os:OsState):SharedT:=SS P os 878 1684 (cD P) (az P) 166 jK 264
noncomputable abbrev ZT:Pos:=⟨848,0,852,15⟩
def ZU(P:Params)(os:OsState):SharedT:=SS P os 948 1806 (cD P) (az P) 176 jN 294
noncomputable abbrev ZV:Pos:=⟨962,0,962,8⟩
def PO(P:Params)(os:OsState):SharedT:=SS P os 1014 1954 (cD P) (az P) 186 jN 324
noncomputable abbrev Ut:Pos:=⟨1101,0,1123,15⟩
inductive MV where
 |none
 |bool (b:Bool)
 |int (i:Int)
 |str (s:Str)
 |kd (t:Nat)
 |op (n:Nat)
 |anyv
 |tup (vs:List MV)
 |ref (i:Nat)
 |top (a:Nat)
 deriving Inhabited
variable{dyn' args':List MV}
inductive MO where
 |list (vs:List MV)
 |dict (es:List (MV×MV))
 |inst (c:Nat) (d:Nat)
 |idict (c:Nat) (es:List (Str×MV))
 |any
 |ktb
 deriving Inhabited
def gtab:List (Str×MV):=[(sO "LF_NOTYPE",.int 1),(sO "LF_BOUND",.int 8),(sO "LF_COUNT",.int 9),(sO "LF_KIND",.int 15),(sO "VOID",.int 0),(sO "BOOL",.int 1),(sO "CHAR",.int 2),(sO "I1",.int 3),(sO "U1",.int 4),(sO "I2",.int 5),(sO "U2",.int 6),(sO "I4",.int 7),(sO "U4",.int 8),(sO "I8",.int 9),(sO "U8",.int 10),(sO "NINT",.int 11),(sO "OBJECT",.int 12),(sO "STRING",.int 13),(sO "NULLK",.int 14),(sO "BAD",.int 15),(sO "PRIM_END",.int 16),(sO "R_PRIM",.int 1),(sO "R_CLASS",.int 2),(sO "R_VALUE",.int 3),(sO "R_ARRAY",.int 4),(sO "R_BYREF",.int 5),(sO "R_VAR",.int 6),(sO "R_MVAR",.int 7),(sO "R_BOXED",.int 8),(sO "R_ROREF",.int 9),(sO "R_FTN",.int 10),(sO "R_RAW",.int 11),(sO "DEEPEST_KIND",.int 24),(sO "HEAVIEST_KIND",.int 4096),(sO "PRIM_TID",.top 54),(sO "TID_PRIM",.top 55),(sO "ARRAY_TID",.int 5),(sO "NULLABLE_TID",.int 8),(sO "S_CLASS",.int 1),(sO "S_STRUCT",.int 2),(sO "S_IFACE",.int 3),(sO "S_ENUM",.int 5),(sO "TF_ABSTRACT",.int 1),(sO "TF_INTERNAL",.int 8),(sO "VA_NONE",.int 0),(sO "VA_IN",.int 2),(sO "GB_CLASS",.int 1),(sO "GB_STRUCT",.int 2),(sO "GB_NEW",.int 4),(sO "MF_STATIC",.int 1),(sO "MF_VIRTUAL",.int 2),(sO "MF_NEWSLOT",.int 4),(sO "MF_CTOR",.int 32),(sO "MF_CCTOR",.int 64),(sO "MF_SPECIAL",.int 128),(sO "T_OBJECT",.int 1),(sO "T_VALUETYPE",.int 2),(sO "T_ENUM",.int 3),(sO "T_ARRAY",.int 5),(sO "T_NULLABLE",.int 8),(sO "A_PRIVATE",.int 1),(sO "A_FAMANDASM",.int 2),(sO "A_ASSEMBLY",.int 3),(sO "A_FAMILY",.int 4),(sO "A_FAMORASM",.int 5),(sO "A_PUBLIC",.int 6),(sO "VALUE_ROOTS",.top 378),(sO "SIGNED_TWIN",.top 379),(sO "MOST_QUESTIONS",.int 512)]
structure FI where
 ad:Nat
 sm:Stmt
 deriving Inhabited
def ftab:List (Str×FI):=[(sO "_wall",⟨21,st 0⟩),(sO "inner_kinds",⟨97,st 44⟩),(sO "row_level",⟨104,st 45⟩),(sO "row_length",⟨111,st 46⟩),(sO "check_kind_row",⟨118,st 47⟩),(sO "check_named",⟨125,st 48⟩),(sO "check_args",⟨132,st 49⟩),(sO "may_stand",⟨139,st 50⟩),(sO "class_kind",⟨146,st 51⟩),(sO "value_kind",⟨153,st 52⟩),(sO "prim_kind",⟨160,st 53⟩),(sO "var_kind",⟨167,st 54⟩),(sO "boxed_kind",⟨174,st 55⟩),(sO "kind_sort",⟨181,st 56⟩),(sO "elem_of",⟨188,st 57⟩),(sO "tid_of",⟨195,st 58⟩),(sO "args_of",⟨202,st 59⟩),(sO "is_value",⟨209,st 60⟩),(sO "is_ref",⟨216,st 61⟩),(sO "is_var",⟨223,st 62⟩),(sO "close",⟨230,st 63⟩),(sO "close_in",⟨237,st 64⟩),(sO "with_inner",⟨244,st 65⟩),(sO "box_of",⟨251,st 66⟩),(sO "pick_arg",⟨258,st 67⟩),(sO "close_all",⟨265,st 68⟩),(sO "plain_names",⟨335,st 95⟩),(sO "type_of",⟨342,st 96⟩),(sO "find_methods",⟨349,st 97⟩),(sO "base_of",⟨356,st 98⟩),(sO "base_of_prim",⟨363,st 99⟩),(sO "ifaces_of",⟨370,st 100⟩),(sO "is_ctor",⟨377,st 101⟩),(sO "bound_kinds",⟨386,st 111⟩),(sO "param_is_value",⟨393,st 112⟩),(sO "param_has_new",⟨400,st 113⟩),(sO "surely_class",⟨407,st 114⟩),(sO "is_iface",⟨414,st 115⟩),(sO "base_chain",⟨421,st 116⟩),(sO "all_ifaces",⟨428,st 117⟩),(sO "add_ifaces",⟨435,st 118⟩),(sO "stands_for_ref",⟨442,st 119⟩),(sO "reduced",⟨449,st 120⟩),(sO "is_nullable",⟨456,st 121⟩),(sO "type_seen",⟨463,st 123⟩),(sO "named_type",⟨470,st 124⟩),(sO "kind_seen",⟨477,st 125⟩),(sO "derives",⟨484,st 126⟩),(sO "through_tid",⟨491,st 127⟩),(sO "homes_of",⟨498,st 128⟩),(sO "family_seen",⟨505,st 129⟩),(sO "seen_at",⟨512,st 130⟩),(sO "member_seen",⟨519,st 131⟩),(sO "mref_seen",⟨526,st 132⟩),(sO "member_in_sight",⟨533,st 134⟩),(sO "mid_seen",⟨540,st 135⟩),(sO "is_explicit",⟨547,st 136⟩),(sO "is_override",⟨552,st 137⟩),(sO "has_slot",⟨559,st 138⟩),(sO "methods_here",⟨566,st 139⟩),(sO "store_under",⟨636,st 142⟩),(sO "store_variance",⟨643,st 143⟩),(sO "store_has_new",⟨650,st 144⟩),(sO "loose_base",⟨657,st 145⟩),(sO "loose_ifaces",⟨662,st 146⟩),(sO "ref_assignable",⟨690,st 149⟩),(sO "source_assignable",⟨697,st 150⟩),(sO "assign_settled",⟨704,st 151⟩),(sO "settle_book",⟨711,st 152⟩),(sO "has_proof",⟨718,st 153⟩),(sO "assign_within",⟨725,st 154⟩),(sO "assign_look",⟨732,st 155⟩),(sO "param_within",⟨739,st 156⟩),(sO "var_within",⟨746,st 157⟩),(sO "inner_within",⟨753,st 158⟩),(sO "elems_within",⟨760,st 159⟩),(sO "yard_kept",⟨877,st 166⟩),(sO "surely_value",⟨884,st 168⟩),(sO "bound_met",⟨891,st 169⟩),(sO "goes_to_bound",⟨898,st 170⟩),(sO "fits_bound",⟨905,st 171⟩),(sO "bounds_kept",⟨912,st 172⟩),(sO "check_kind",⟨919,st 173⟩),(sO "check_definition",⟨926,st 174⟩),(sO "check_arguments",⟨933,st 175⟩),(sO "check_margs",⟨940,st 176⟩),(sO "store_met",⟨947,st 178⟩),(sO "_law_types",⟨954,st 180⟩),(sO "_law_ups",⟨961,st 181⟩),(sO "_law_methods",⟨968,st 182⟩),(sO "_law_sees",⟨975,st 183⟩),(sO "_law_named",⟨982,st 184⟩),(sO "_law_through",⟨989,st 185⟩),(sO "_law_ask",⟨996,st 186⟩),(sO "_law_meets",⟨1003,st 187⟩),(sO "_law_bound",⟨1008,st 188⟩),(sO "law",⟨1013,st 189⟩)]
def ctab:List (Str×Nat):=[(sO "RuneError",38),(sO "BadKind",51),(sO "KindTable",86),(sO "TypeDef",282),(sO "MethodDef",303),(sO "Store",324),(sO "StoreHost",625),(sO "Book",679),(sO "Diags",796),(sO "Unit",817),(sO "Yard",866)]
def mtab:List (Nat×List (Str×FI)):=[(86,[(sO "__init__",⟨69,sm 43 0⟩),(sO "row",⟨76,sm 43 1⟩),(sO "put",⟨83,sm 43 2⟩)]),(282,[(sO "__init__",⟨279,sm 92 0⟩)]),(303,[(sO "__init__",⟨300,sm 93 0⟩)]),(324,[(sO "__init__",⟨321,sm 94 0⟩)]),(625,[(sO "__init__",⟨580,sm 141 0⟩),(sO "base",⟨587,sm 141 1⟩),(sO "ifaces_at",⟨594,sm 141 2⟩),(sO "sort",⟨601,sm 141 3⟩),(sO "variance",⟨608,sm 141 4⟩),(sO "under",⟨615,sm 141 5⟩),(sO "has_new",⟨622,sm 141 6⟩)]),(679,[(sO "__init__",⟨676,sm 148 0⟩)]),(796,[(sO "__init__",⟨774,sm 161 0⟩),(sO "put",⟨781,sm 161 1⟩),(sO "cut",⟨788,sm 161 2⟩),(sO "numbers",⟨793,sm 161 3⟩)]),(817,[(sO "__init__",⟨814,sm 163 0⟩)]),(866,[(sO "__init__",⟨835,sm 165 0⟩),(sO "kind",⟨842,sm 165 1⟩),(sO "fault",⟨849,sm 165 2⟩),(sO "show",⟨856,sm 165 3⟩),(sO "kept",⟨863,sm 165 4⟩)])]
def flds:List (Nat×List (Str×Unit)):=[(86,[(sO "depths",()),(sO "index",()),(sO "opens",()),(sO "rows",()),(sO "weights",())]),(282,[(sO "asm",()),(sO "base",()),(sO "bounds",()),(sO "cctor",()),(sO "events",()),(sO "fields",()),(sO "finaliser",()),(sO "flags",()),(sO "home",()),(sO "ifaces",()),(sO "impls",()),(sO "methods",()),(sO "name",()),(sO "params",()),(sO "props",()),(sO "sort",()),(sO "tid",()),(sO "under",()),(sO "variances",())]),(303,[(sO "access",()),(sO "body",()),(sO "flags",()),(sO "gbounds",()),(sO "gnames",()),(sO "mid",()),(sO "name",()),(sO "native",()),(sO "ngen",()),(sO "owner",()),(sO "params",()),(sO "pflags",()),(sO "pnames",()),(sO "ret",())]),(324,[(sO "asms",()),(sO "entry",()),(sO "fields_",()),(sO "kt",()),(sO "methods",()),(sO "names",()),(sO "types",())]),(625,[(sO "bases",()),(sO "bounds",()),(sO "gflags",()),(sO "ifaces",()),(sO "kt",()),(sO "news",()),(sO "sorts",()),(sO "store",()),(sO "unders",()),(sO "variances",())]),(679,[(sO "listed",()),(sO "pairs",()),(sO "proved",()),(sO "strict",())]),(796,[(sO "rows",())]),(817,[(sO "asm",()),(sO "consts",()),(sO "diags",()),(sO "fns",()),(sO "inits",()),(sO "of_mid",()),(sO "sinits",()),(sO "store",()),(sO "vars",())]),(866,[(sO "asm",()),(sO "early",()),(sO "host",()),(sO "kinds",()),(sO "kt",()),(sO "mid",()),(sO "owner",()),(sO "static",()),(sO "store",()),(sO "told",()),(sO "tparams",()),(sO "unit",()),(sO "unmet",())])]
noncomputable def Uu:List Nat:=[0x70115ed36b335b9fd4e2f8ae14d8ee6b3f04a6004c,0x67f26e23c36bf8d49ae13f2a26b3f04a6004c,0x8067b394c36bf8d49ae1405d36b3f04a6004c,0x61d51c5de50b088e9f5b6b3f04a6004c,0x519045269053f0056,0x5b28c592f053f0042,0x625b2496104c80043,54591561,54591573,55705673,55705685,57933897,57933909,62390345,62390357,0x64c14580e04d9004e,0x71be2e963082c35538a0462004f,0x6023cda67d378f95c9205940053,0x5f9510b28c55cc05a5004e,84404769718338,0x67f26e23c3564e84e1224c5bd526905720050,0x6843aba088f25b25a50064f0052,0x7769c3793895d686b28c4ba3064f0052,0x63456c568d45db50df716116064f0052,0x800b9e393ef980d825b24961064f0052,0x64b5ba5ce83d80d8ac094a82064f0052,0x6880d6df716116064f0052,0x6f08e44d687727656ed064f0052,0x61d51b9ae845265dec1f4a82064f0052,0x64b5ba5ce83d80d7ec1f5c92064f0052,0x6367d44c144f06064f0052,0x6ee01bdf715c92064f0052,0x84791ccf81db67fdf7d72ed503dc912da389aef8aff504de504950044,0x8cc0ae9c79f91e7dd754a1c2541a5a407dc249e832088f7276496104950048,0x67f26db0aa9c4e30d1224c5bd526905720050,0x75b464c03a9998e57f4571f2f4cc404d90054,0x6e71948bb5461313de34806c9ddf715c9205720041,0x84791c3cd31e5d4204b6bab7b24cc9661e934d686b28c55cc05a5004e,0x7769c3793895d686b28c4ba3064f0053,0x8067b2978cd948d4d80d84c145db3064f0053,0x63456ad09385d6863f665269064f0053,0x6843ac9539ad8ee4de5064f0053,0x9a0461a6e740e42b9251b70c12da38971cc6df716b3f04a60054,0x8b594ca24187384684dea1776c40e2f767d378f96b3f04a60054,0x63456bbee512ae14d8ee6b3f04510056,0x6367d378f96b3f04510056,0x7ee05fb0cc1f33ef1db5105d36b3f04620047,0x886e2dc105a6dd62258e5d0d5a38e36b3f04620047,0x75ce1deef8ad8ee6b3f04620047,0x6cd1caef34461311543efc0d5a38e36b3f04a6004d,0x8326deb6d44dbb1875f12c48e4f088f72766b3f04a6004d,0x90f511d4ed28ea014f5c3cfe1deef8ad8ee6b3f04a6004d,0x75f973c18f6a0d5905d36b3f04a6004d,0x7d590afda860ae2e9630805d36b3f04a6004d,0x8326deb6d43b6322d9dcc39e83af45638e36b3f04a6004d,0x8067b2978cc39e8334ecef2a2592f064f0054,0x7e839c0cac04fa6f6f542c596c568d45db50df716116064f0054,0x6843ac9539ad8ee4de5064f0054,0x800b9e393ef980d825b24961064f0054,0x77127458af5c48844a62e0f906cdb525f45580e064f0054,0x70115f354026982ee83793088f25b25a50064f0041,0x8d2eb12cee102d3a3be7e23c350e3ef32191df714f06064f0041,0x9995f096649c48855e9e603e83ec71938e34961064f0041,0x880c591a096f9917b2191df714f06064f0041,0x84e0a6c0e00f39a17aa73c18f612191df714f06064f0041,0x666b19599a91790601cc85f455a50064f0041,0x982f00e29c504ed2d7ffe3d8751c3466ef8b5f4555cc04510056,0x8f0412b27ff2fae5365251c17ac03ddbef8ad8ee502704d90053,0xb689e0391a0044aa0dd0680d40ccdf8556f31bf620fe41a12254c145db3053f004d]
noncomputable def wP:List Nat:=[0x89a37418ac6d8107e7005f,0xd2db55d216d8f14f4788154a359534a048f992557c2e074e0069,0xaf6917acb10f599f42327ea3731f2f8657075f0072,0xb37891d424cc1a38eb9243a327ea3731f2f8657075f0072,0x105b6415e6ed1bc04f430ea28644f14f4788154a359534975d326bf3720506e80063,0xb75a8eec86cbb615e75cee1323b834975d326bf3720506e80063,0xc67414d774bdc2077e01bcb34975d326bf3720506e80063,0xa26acba4c8621c1d922d468f3a1f2f88990671006d,0xac91785f14f4788154a359534a18f3b9f036d81072c0063,0xac91785f14f4788154a3595348fb7adc56579ec06710076,0xa26acba4c86d9e97d7305412272bdd768907920070,0x98dcfbe662490dbc15d321f2f80b206710076,0xac91785f14f4788154a3595348e716b92558778075f0062,0xbc6765cead8c0474ca82dc12267f247c2e06f9006b,0x92bfaa0ad99812272bdd7205072c0065,0x8a1dcd376361f2f70e406f90074,0x92bfaa0ad99812279f03744707920061,0x9a6450de95078daa79ea9d8966b3f07a30069,0x8a1dcc6b7ad8bd26b3f07a30069,0x9a5d88d9ea9d8966b3f07a30069,0x80b7ad9f037d4f072c0063,0xa82646d9e96d3348fb7ad9f037d4f072c0063,0xc4ba4e6d327414974d02490dbb21226cbe882f406f90077,0x8a1dcd376361f2f8778075f0062,0x9d72f947a6167892a1227057b6fc306f90070,0xaf691857e5d73a1bcb348fb7ad9f037d4f072c0063,0xd2db55edb33ab615e75cee1323b8349b2ff5df196d81072c0070,0x92bfaa0ad998122692557e7008090074,0xe0090b2f38483a2a584d1a98c08835a7e84f612267f247c2e06f90066,0x92bfaa0ad9981226925581d306710062,0xd458b72e343b0dc01b0cf8bf557aeaa0ad9981226925581d306710062,0xa5aa5ef63fa4ac7eba82e3b7ac6bf36d8106c60069,0xa4036296d9b2d57b6bf36b3f07a30069,0xd2db55d216d8f14f4788154a3595348e716c3f0e8415075f0062,0xde2013b4ed8f2f71a38a7a0e06ba6b2108dc8d396d33499e9b4459180b206710070,0xf6512d3f4b6220f11ca4cb19699262e57147723499e9b4459180b206710070,0xe0090ce744a0241ab84087bc663607f3c80d2a373925580b207c50073,0x9a644f403bab88932fdeddf196b3f07a30069,0xbdd335fc0087558e57147c8ddcc1226925581d306710062,0xc67414a37b7343f66411c62dccbd0b01f2f79ec072c0061,0xc67414a37b7343f66411c62dccbd0b01f2f70e406a40061,0xe05314377e1e4fd33b9102513b611069aa933b37eba82e2716c3f0e6d8107b40073,0x8fdf0a7032732b2bc56570e406b50072,0xb92ff2477b1298632dd1eb32860fdac11bbd3f0e6b3f07a30069,0xb2a8aae5b2f6e45b0082dc122692557e7008090074,0xae4b3ec957507de794cfffe348e716b92557b0d0671006e,0xb2a8aae5b2f6e45b0082dc12267f247c2e06f9006b,0xa573b11f328b61fddf1980b206b50064,0xb75a8f5af864a6dcfdf95a8f481f872c1bbd523f80b206e80074,0x9beba4ab8731934a18f3a92557b0d075f0068,0xc9b068ed4f08b7cabb93ba707f3c80d2a373df197b0d06710066,0xa6e40029892a12273f0e720506b50073,0xc9b068ed4f08b7cabb93ba707ea4d892b7ac58c27b0d06b5006d,0xb2a8aae5b2f6e45b0082dc1226a58672050792006d,0x10f0f0c44d026cc37c911700dfce108e7fa7a478804067ea4d892b7ac58c27b0d06b5006d,0xa826467dd59d132878f3a1f2f70e406f9006d,0xd4b0b8f5d2590a7a8dfd16ba86668408ee7f92556b3f07a30069,0xb92ff16a9802d2601522905561be328b61fe523f6b3f07a30069,0xb152416e67432dabe8f3a1f2f81d306710068,0xc4c2f21bf7c2905919725a7ed6a62b10988317636cbe882f406b5006d,0xd105f354058b1800a4c87ee24f5f348fb7ad8bd27d4f07b40073,0xde201160ccb9a84010fb59bef7e6749f5e1f9959ec0348fb7ad8bd27d4f07b40073,0xf6512d3f4b6220f11ca4cb19699262e5714772348fb7ad8bd27d4f07b40073,0xae4b3f174cf9262dccf6b2c348fb7ad9f037d4f075f006c,0xe0090b4c8e5d1fb926f810b9b421696d3348fb7ad9f037d4f075f006c,0xde20128add0efde876259d9fd5d8076000120ccb24e82de9ea81f2f732606b50072,0x10a6e583dafc6cb6da4367e60876f6e589615a67869f4bd9262d87e7d8b32732b2b8bd28415075f0073,0xdbed0f0e946cc5610fef8d18aa19c49bb93ba707e4e2f51442edf1981d307a30061,0xc43042346217e35338d41def7d8b327ea374b23482f406b50073,0xa5aa5ef63fbbb174b4d8a0bc771f2f81d306710068,0xe3b026f0946f29c28a671c1b708f6cd0347e4e2f51442edf1981d307a30061,0xc43042346217e3542d68d4597e4e2f51442edf1981d307a30061,0xd64b6ff17ca4dc026424cf28e268dee213499e9b4459180b206710070,0xbdd335fc009208ddccc00d6dbd0a83e1f2f80b206710076,0xd64b6ff17ca4dc026424cf28e268dee2134a048f992557c2e074e0069,0xd64b6ff17ca4dc026424cf28e268dee2134a18f3b2bdd7205072c0065,0xbc67659dc2f2bf5a53305412267f2480b206710079,0xc4c2f273fa4b75520f89b92ef8ac37f3c80d2a373925580b207c50073,0xbc676490b90266d457348e716c3f0e8415075f0062,0xcefd3c718c287c6a432a4cc615fce764a174e02d2d12279f037205075f0067,0xac91785f1506d075c57735a337b12279f0382f406f90066,0xd4b0b9b719140a04f7e98ee87eba82e2716c3f0e8415075f0062,0xac91785f14f4788154a359534975d326bf3720506e80063,0x1111a7a954413ef95870b8013b8ab010f4c097e9d701aaf57409ee34975d326bf3720506e80063,0x10cb8db2d56048532aa9a478290e267a1406ddc2077e01bcb34975d326bf3720506e80063,0xd2db5624ec099e27f5e1eca2d45734975d326bf3720506e80063,0xbc676490b90266d457348fb7ad8bd27d4f07b40073,0xc67414a37b872340f858eaa2d2d1227ebc76d81072c005f,0xafcaed2e5c456d77e1227ebc76d81072c005f,0xe0090b2f38483a2a584d1a98c08835a7e84f61227ebc76d81072c005f,0xbac79af437f6e45b0082dc1227ebc76d81072c005f,0xac91777533928d41cab1d102f471227ebc76d81072c005f,0xca9b1b231d85b55e83ebac02881f249392d2d1227ebc76d81072c005f,0xa3904abaeb0c8892a1227ebc76d81072c005f,0xc674162948790b8f6e45a7e84f61227ebc76d81072c005f,0xac91785f1506d075c57735a337b1227ebc76d81072c005f,147708328345708]
noncomputable def wQ:List Nat:=[0xb927d24c4bc00262d7d869ef8c92557c2e07c50052,0x8fdf0b332f53d0ae9f5b70e406710042,0xa40a95105ed8aa6b57891c0d5b7f247c2e06f9004b,0x92bfa932324ba94b92557e7008090054,0xa5aa5e01aac76a1e3a88317636cbe882f406b5004d,0x80b7ad8bd27d4f07b40053,0xbc6765e722d1757126e748b7ad8bd27d4f07b40053,0x8057b7d4f075f0042,0x928f3ab8b76d8106f90044,0x8b2347689074e0055,0x77f2480b206710059]
structure MS where
 H:List MO
 dyn:List MV
 low:Nat
 bas:Nat
 deriving Inhabited
variable{st' st2:MS}{dyn:List MV}
noncomputable abbrev MR:=Option (MV×MS)
noncomputable abbrev Loc:=List (Str×MV)
variable{zl:Loc}
noncomputable abbrev Cx:=List (Str×NameKind)
inductive Src where
 |tup (vs:List MV)
 |lst (i:Nat)
 |rng (n:Nat)
 deriving Inhabited
inductive Itm where
 |stm (ss:List Stmt)
 |forI (x:xpZ) (s:Src) (i:Nat) (body:List Stmt)
 |whl (t:xpZ) (body:List Stmt)
 deriving Inhabited
structure Ih where
 ev:Cx→Loc→MS→xpZ→MR
 tst:Cx→Loc→MS→xpZ→Option (Bool×MS)
 run:Cx→List Itm→Loc→MS→MR
 cal:FI→List MV→MS→MR
 deriving Inhabited
variable{ih:Ih}
noncomputable def AK:List Nat→Nat
 |[]=>0
 |c::l=>Nat.add c (Nat.mul 1114112 (AK l))
noncomputable def sP(x:List Nat):List Nat→Bool:=@List.rec Nat (fun _=>List Nat→Bool) (fun y=>@List.rec Nat (fun _=>Bool) true (fun _ _ _=>false) y)
 (fun a _ ih y=>@List.rec Nat (fun _=>Bool) false (fun b y' _=>@Bool.rec (fun _=>Bool) false (ih y') (Nat.beq a b)) y) x
def sq(a b:Str):Bool:=sP a.cps.toList b.cps.toList
def c7{α:Type}(x:Str)(l:List (Str×α)):Option α:=@List.rec (Str×α) (fun _=>Option α) none (fun p _ ih=>@Bool.rec (fun _=>Option α) ih (some p.2) (sq p.1 x)) l
def PP{α:Type}(n:Nat)(x:List Nat)(cs:List Nat):List (Str×α)→Option α:=@List.rec Nat (fun _=>List (Str×α)→Option α) (fun _=>none)
 (fun c _ ih l=>@List.rec (Str×α) (fun _=>Option α) none (fun p r _=>@Bool.rec (fun _=>Option α) (ih r) (@Bool.rec (fun _=>Option α) none (some p.2) (sP p.1.cps.toList x)) (Nat.beq c n)) l) cs
def vy{α:Type}(x:Str)(cs:List Nat)(l:List (Str×α)):Option α:=PP (AK x.cps.toList) x.cps.toList cs l
def c8{α:Type}(x:Str)(v:α):List (Str×α)→List (Str×α)
 |[]=>[(x,v)]
 |p::r=>match sq p.1 x with
  |true=>(p.1,v)::r
  |false=>p::c8 x v r
noncomputable def dS{α:Type}(x:Nat):List (Nat×α)→Option α
 |[]=>none
 |p::r=>match Nat.beq p.1 x with
  |true=>some p.2
  |false=>dS x r
noncomputable def aH{α:Type}(l:List α):Nat→Option α:=@List.rec α (fun _=>Nat→Option α) (fun _=>none) (fun x _ ih n=>@Nat.rec (fun _=>Option α) (some x) (fun m _=>ih m) n) l
noncomputable def bO{α:Type}(v:α)(l:List α):Nat→List α:=@List.rec α (fun _=>Nat→List α) (fun _=>[]) (fun x r ih n=>@Nat.rec (fun _=>List α) (v::r) (fun m _=>x::ih m) n) l
noncomputable def Uv(n:Nat):Bool:=Nat.blt n 1048576
def fy{α:Type}(n:Nat)(r:Option α):Option α:=match Uv n with
 |true=>r
 |false=>none
noncomputable def mn(i n:Nat):Nat:=match Nat.blt i n with|true=>i|false=>n
def wr(st:MS)(i:Nat)(o:MO):MS:=⟨bO o st.H i,st.dyn,mn i st.low,mn i st.bas⟩
noncomputable def psh(st:MS)(o:MO):MS:=⟨st.H++[o],st.dyn,st.low,st.bas⟩
noncomputable def gd{α:Type}(b:Bool)(r:Option α):Option α:=match b with
 |true=>r
 |false=>none
noncomputable def ob{α β:Type}(o:Option α)(f:α→Option β):Option β:=match o with
 |some x=>f x
 |none=>none
noncomputable def pb{α β:Type}(r:Option (α×MS))(f:α→MS→Option β):Option β:=match r with
 |some p=>f p.1 p.2
 |none=>none
noncomputable def an(p q:Bool):Bool:=match p with
 |true=>q
 |false=>false
noncomputable def sQ :MV→Option Bool
 | .bool b=>some b
 |_=>none
noncomputable def b8 :MV→Option Int
 | .int i=>some i
 |_=>none
noncomputable def PR :MV→Option Str
 | .str s=>some s
 |_=>none
noncomputable def ZW :MV→Option Nat
 | .kd t=>some t
 |_=>none
noncomputable def e8 :MV→Option (List MV)
 | .tup vs=>some vs
 |_=>none
noncomputable def fH :MV→Option Nat
 | .ref r=>some r
 |_=>none
noncomputable def PS :MV→Bool
 | .none=>true
 |_=>false
def dn(v:MV):Option Nat:=ob (b8 v) fun i=>match i with
 | .ofNat n=>some n
 | .negSucc _=>none
noncomputable def qg{α:Type}(v:MV)(f:Int→Option α)(g:Nat→Option α):Option α:=match v with
 | .int i=>f i
 | .kd t=>g t
 |_=>none
def ec:Nat→MV→MV→Option Bool
 |0,_,_=>none
 |n+1,a,b=>match a with
  | .none=>gd (PS b) (some true)
  | .bool x=>ob (sQ b) fun y=>some (match x with|true=>y|false=> !y)
  | .int x=>qg b (fun y=>some (eqB x y)) fun _=>gd (ltB x 25) (some false)
  | .str x=>ob (PR b) fun y=>some (sq x y)
  | .kd t=>qg b (fun i=>gd (ltB i 25) (some false)) fun u=>some (Nat.beq t u)
  | .tup xs=>ob (e8 b) fun ys=>match xs with
   |[]=>match ys with
    |[]=>some true
    |_::_=>some false
   |x::xs=>match ys with
    |[]=>some false
    |y::ys=>ob (ec n x y) fun p=>ob (ec n (.tup xs) (.tup ys)) fun q=>some (an p q)
  |_=>none
def bP(a b:MV):Option Bool:=ec 40 a b
def pB(k:MV):List (MV×MV)→Option (Option MV)
 |[]=>some none
 |p::r=>ob (bP p.1 k) fun b=>match b with
  |true=>some (some p.2)
  |false=>pB k r
def iP(k v:MV):List (MV×MV)→Option (List (MV×MV))
 |[]=>some [(k,v)]
 |p::r=>ob (bP p.1 k) fun b=>match b with
  |true=>some ((p.1,v)::r)
  |false=>(iP k v r).map (p::·)
noncomputable def vz:MV→Bool
 | .int _=>true
 | .kd _=>true
 |_=>false
def qh:List MV→Bool
 |[]=>true
 |v::r=>an (vz v) (qh r)
def UA:MV→Bool
 | .tup vs=>qh vs
 |v=>vz v
def sR:List MV→Bool
 |[]=>true
 |v::r=>an (UA v) (sR r)
def jU:MV→Bool
 | .tup vs=>sR vs
 |v=>vz v
def gp(k:MV)(es:List (MV×MV)):Option (Option MV):=gd (jU k) (pB k es)
def sS(k v:MV)(es:List (MV×MV)):Option (List (MV×MV)):=gd (jU k) (iP k v es)
def inl(v:MV):List MV→Option Bool
 |[]=>some false
 |x::r=>ob (bP x v) fun p=>ob (inl v r) fun q=>some (match p with|true=>true|false=>q)
def JU(vs:List MV)(k:Int):Option MV:=match k with
 | .ofNat n=>aH vs n
 | .negSucc n=>match Nat.ble (Nat.succ n) vs.length with
  |true=>aH vs (Nat.sub vs.length (Nat.succ n))
  |false=>none
noncomputable def Uw :MO→Option (List MV)
 | .list vs=>some vs
 |_=>none
noncomputable def Ux :MO→Option (List (MV×MV))
 | .dict es=>some es
 |_=>none
def jV(st:MS)(r:Nat):Option (List MV):=ob (aH st.H r) Uw
noncomputable def wR(vs:List MV):Bool:=match vs with
 |[]=>false
 |_::_=>true
def fR(st:MS)(v:MV):Option Bool:=match v with
 | .none=>some false
 | .bool b=>some b
 | .int i=>some (!eqB i 0)
 | .tup vs=>some (wR vs)
 | .ref r=>ob (jV st r) fun vs=>some (wR vs)
 |_=>none
def bc:Nat→MV→Bool
 |0,_=>false
 |n+1,v=>match v with
  | .ref _=>false
  | .tup vs=>match vs with
   |[]=>true
   |x::xs=>an (bc n x) (bc n (.tup xs))
  |_=>true
def lj:List MV→Bool
 |[]=>true
 |x::xs=>an (bc 40 x) (lj xs)
noncomputable def jO:Nat→List (Int×Int)
 |54=>[(0,20),(1,9),(2,10),(3,11),(4,12),(5,13),(6,14),(7,15),(8,16),(9,17),(10,18),(11,19),(12,1),(13,4)]
 |55=>[(20,0),(9,1),(10,2),(11,3),(12,4),(13,5),(14,6),(15,7),(16,8),(17,9),(18,10),(19,11),(1,12),(4,13)]
 |_=>[]
noncomputable def AL(k:Int):List (Int×Int)→Option Int
 |[]=>none
 |p::r=>match eqB p.1 k with
  |true=>some p.2
  |false=>AL k r
def pC(t:Nat):Bool:=match jO t with
 |[]=>false
 |_::_=>true
def qi(k:Int)(t:Nat):Option (Option Int):=gd (pC t) (some (AL k (jO t)))
noncomputable def wT(op:CmpOp)(x y:Int):Option Bool:=match op with
 | .Lt=>some (ltB x y)
 | .LtE=>some (leB x y)
 | .Gt=>some (ltB y x)
 | .GtE=>some (leB y x)
 |_=>none
def g9(st:MS)(v:MV):Option (List MV):=match v with
 | .tup vs=>some vs
 | .ref r=>jV st r
 |_=>none
def pD(st:MS):Nat→MV→MV→Option Bool
 |0,_,_=>none
 |n+1,a,b=>match a with
  | .ref r=>ob (fH b) fun s=>ob (jV st r) fun xs=>ob (jV st s) fun ys=>bP (.tup xs) (.tup ys)
  | .tup xs=>ob (e8 b) fun ys=>match xs with
   |[]=>match ys with
    |[]=>some true
    |_::_=>some false
   |x::xs=>match ys with
    |[]=>some false
    |y::ys=>ob (pD st n x y) fun p=>ob (pD st n (.tup xs) (.tup ys)) fun q=>some (an p q)
  |a=>bP a b
noncomputable def isNone:MV→Option Bool
 | .none=>some true
 | .anyv=>none
 |_=>some false
def PT(a b:MV):Option Bool:=match a with
 | .bool x=>ob (sQ b) fun y=>some (Bool.xor x y)
 | .tup _=>none
 | .none=>none
 |a=>(bP a b).map (!·)
def ZX(op:CmpOp)(y:Int):Option Bool:=match op with
 | .Lt=>gd (leB y 25) (some false)
 | .LtE=>gd (ltB y 25) (some false)
 | .Gt=>gd (ltB y 25) (some true)
 | .GtE=>gd (leB y 25) (some true)
 |_=>none
def ZY(op:CmpOp)(x:Int):Option Bool:=match op with
 | .Lt=>gd (ltB x 25) (some true)
 | .LtE=>gd (leB x 25) (some true)
 | .Gt=>gd (leB x 25) (some false)
 | .GtE=>gd (ltB x 25) (some false)
 |_=>none
def Uy(op:CmpOp)(a b:MV):Option Bool:=qg a (fun x=>qg b (fun y=>wT op x y) fun _=>ZY op x) fun _=>ob (b8 b) fun y=>ZX op y
def ZZ(st:MS)(a b:MV):Option Bool:=match b with
 | .tup vs=>inl a vs
 | .ref r=>ob (aH st.H r) fun o=>match o with
  | .list vs=>inl a vs
  | .dict es=>(gp a es).map (·.isSome)
  |_=>none
 | .top t=>ob (b8 a) fun k=>(qi k t).map (·.isSome)
 |_=>none
def ck(st:MS)(op:CmpOp)(a b:MV):Option Bool:=match op with
 | .Eq=>pD st 40 a b
 | .NotEq=>PT a b
 | .Is=>gd (PS b) (isNone a)
 | .IsNot=>gd (PS b) ((isNone a).map (!·))
 | .In=>ZZ st a b
 | .NotIn=>(ZZ st a b).map (!·)
 |op=>Uy op a b
noncomputable def jt(vs:List MV):Nat→List MV
 |0=>[]
 |n+1=>vs++jt vs n
def qj(st:MS)(op:Operator)(a b:MV):MR:=match op with
 | .Add=>ob (b8 a) fun x=>ob (b8 b) fun y=>some (.int (x+y),st)
 | .Sub=>ob (b8 a) fun x=>ob (b8 b) fun y=>some (.int (x - y),st)
 | .Mod=>ob (b8 a) fun x=>ob (b8 b) fun y=>gd (ltB 0 y) (some (.int (x % y),st))
 | .FloorDiv=>ob (b8 a) fun x=>ob (b8 b) fun y=>gd (ltB 0 y) (some (.int (x / y),st))
 | .BitAnd=>ob (dn a) fun x=>ob (dn b) fun y=>some (.int (.ofNat (Nat.land x y)),st)
 | .BitOr=>ob (dn a) fun x=>ob (dn b) fun y=>some (.int (.ofNat (Nat.lor x y)),st)
 | .Mult=>ob (dn b) fun n=>match a with
  | .tup vs=>gd (wR vs) (gd (Nat.beq n 0) (some (.tup [],st)))
  | .ref r=>ob (jV st r) fun vs=>fy n (fy (jt vs n).length (some (.ref st.H.length,psh st (.list (jt vs n)))))
  |_=>none
 |_=>none
def fT(st:MS)(a k:MV):Option MV:=match a with
 | .tup vs=>ob (b8 k) fun i=>JU vs i
 | .str s=>ob (dn k) fun i=>fy i ((aH s.cps.toList i).map fun c=>.str ⟨#[c]⟩)
 | .ref r=>ob (aH st.H r) fun o=>match o with
  | .list vs=>ob (b8 k) fun i=>JU vs i
  | .dict es=>ob (gp k es) fun o=>o
  |_=>none
 |_=>none
noncomputable def Uz :MO→Option (Nat×Nat)
 | .inst c d=>some (c,d)
 |_=>none
noncomputable def PU :MO→Option (Nat×List (Str×MV))
 | .idict c es=>some (c,es)
 |_=>none
def inA{α:Type}(st:MS)(o:MO)(f:Nat→Nat→List (Str×MV)→Option α):Option α:=ob (Uz o) fun p=>ob (aH st.H p.2) fun o=>ob (PU o) fun q=>gd (Nat.beq p.1 q.1) (f p.1 p.2 q.2)
def ll(st:MS)(a:MV)(x:Str):Option MV:=ob (fH a) fun r=>ob (aH st.H r) fun o=>inA st o fun _ _ es=>c7 x es
def bU(ev:Cx→Loc→MS→xpZ→MR)(cx:Cx)(zl:Loc):MS→List xpZ→Option (List MV×MS)
 |st,[]=>some ([],st)
 |st,e::r=>pb (ev cx zl st e) fun v st=>pb (bU ev cx zl st r) fun vs st=>some (v::vs,st)
def du(s:Stmt):List Str:=(fA s).args.map (·.arg)
noncomputable def pE:List Str→List MV→Option Loc
 |[],vs=>match vs with
  |[]=>some []
  |_::_=>none
 |x::xs,vs=>match vs with
  |[]=>none
  |v::vs=>(pE xs vs).map ((x,v)::·)
def Fp(n:Nat)(st:MS)(v:MV):Option (Option (List MV)):=match bc 40 v with
 |true=>some none
 |false=>ob (fH v) fun r=>match Nat.blt r n with
  |true=>some none
  |false=>ob (jV st r) fun vs=>gd (lj vs) (some (some vs))
def dh(st0:MS)(v:MV)(st:MS):MV×MS:=match Nat.ble st0.H.length st.low with
 |true=>match Fp st0.H.length st v with
  |none=>(v,⟨st.H,st.dyn,st0.low,st0.bas⟩)
  |some o=>match o with
   |none=>(v,⟨st0.H,st.dyn,st0.low,st0.bas⟩)
   |some vs=>(.ref st0.H.length,⟨st0.H++[.list vs],st.dyn,st0.low,st0.bas⟩)
 |false=>(v,⟨st.H,st.dyn,mn st.low st0.low,mn st.bas st0.bas⟩)
noncomputable def aD:Nat:=1000000
def pF(run:Cx→List Itm→Loc→MS→MR)(f:FI)(args:List MV)(st:MS):MR:=ob (pE (du f.sm) args) fun zl=>pb (run (fS f.sm).names [.stm (fB f.sm)] zl ⟨st.H,st.dyn,aD,st.bas⟩) fun v st'=>some (dh st v st')
def callC(ih:Ih)(c:Nat)(args:List MV)(st:MS):MR:=
 ob ((dS c mtab).bind (c7 (sO "__init__"))) fun f=>pb (ih.cal f (.ref st.H.length::args) ⟨st.H++[.inst c (Nat.succ st.H.length),.idict c []],st.dyn,st.low,st.bas⟩) fun v st'=>gd (PS v) (some (.ref st.H.length,st'))
noncomputable def PV{α:Type}(vs:List MV)(f:MV→Option α):Option α:=match vs with
 |[]=>none
 |a::r=>match r with
  |[]=>f a
  |_::_=>none
noncomputable def VA{α:Type}(vs:List MV)(r:Option α):Option α:=match vs with
 |[]=>r
 |_::_=>none
def UB{α:Type}(vs:List MV)(f:MV→MV→Option α):Option α:=match vs with
 |[]=>none
 |a::r=>PV r (f a)
def lm(b:Str)(args:List MV)(st:MS):MR:=PV args fun a=>match sq b (sO "len")with
 |true=>ob (g9 st a) fun vs=>some (.int (.ofNat vs.length),st)
 |false=>match sq b (sO "tuple")with
  |true=>ob (g9 st a) fun vs=>some (.tup vs,st)
  |false=>match sq b (sO "list")with
   |true=>ob (g9 st a) fun vs=>some (.ref st.H.length,psh st (.list vs))
   |false=>gd (sq b (sO "any")) (ob (fH a) fun r=>ob (jV st r) fun vs=>match vs with
    |[]=>some (.bool false,st)
    |_::_=>none)
def ktN:List (Str×Nat):=[(sO "rows",2),(sO "index",3),(sO "depths",4),(sO "weights",5),(sO "opens",6)]
inductive Mt where
 |fn (f:FI)
 |app
 |pop
 |get
 deriving Inhabited
def UC(c:Nat)(m:Str):Option Mt:=ob ((dS c mtab).bind (c7 m)) fun f=>some (.fn f)
noncomputable def Fq{α:Type}(o:Option α):Bool:=match o with
 |none=>true
 |some _=>false
def ew(st:MS)(m:Str)(o:MO):Option Mt:=match o with
 | .inst c d=>inA st (.inst c d) fun c _ es=>gd (Fq (c7 m es)) (UC c m)
 | .ktb=>gd (Fq (c7 m ktN)) (UC 86 m)
 | .list _=>match sq m (sO "append")with
  |true=>some .app
  |false=>gd (sq m (sO "pop")) (some .pop)
 | .dict _=>gd (sq m (sO "get")) (some .get)
 |_=>none
def cp(st:MS)(o:MV)(m:Str):Option Mt:=match o with
 | .top t=>gd (pC t) (gd (sq m (sO "get")) (some .get))
 | .ref r=>ob (aH st.H r) (ew st m)
 |_=>none
noncomputable def Fs(st:MS)(d:MV)(o:Option MV):MR:=match o with
 |some v=>some (v,st)
 |none=>some (d,st)
def lu(ih:Ih)(k:Mt)(o:MV)(args:List MV)(st:MS):MR:=match k with
 | .fn f=>ih.cal f (o::args) st
 | .app=>ob (fH o) fun r=>PV args fun v=>ob (jV st r) fun vs=>fy vs.length (some (.none,wr st r (.list (vs++[v]))))
 | .pop=>ob (fH o) fun r=>VA args (ob (jV st r) fun vs=>match vs.reverse with
  |v::r'=>some (v,wr st r (.list r'.reverse))
  |[]=>none)
 | .get=>UB args fun k d=>match o with
  | .top t=>ob (b8 k) fun k=>ob (qi k t) fun v=>Fs st d (v.map .int)
  | .ref r=>ob (aH st.H r) fun o=>ob (Ux o) fun es=>ob (gp k es) fun v=>Fs st d v
  |_=>none
noncomputable def Ft{α:Type}(op:PySem.BoolOp)(b:Bool)(x y:α):α:=match op with
 | .And=>match b with
  |false=>x
  |true=>y
 | .Or=>match b with
  |true=>x
  |false=>y
def dW(ih:Ih)(cx:Cx)(zl:Loc)(op:PySem.BoolOp):MS→List xpZ→MR
 |_,[]=>none
 |st,e::r=>match r with
  |[]=>ih.ev cx zl st e
  |e'::r=>pb (ih.ev cx zl st e) fun v st=>ob (fR st v) fun b=>Ft op b (some (v,st)) (dW ih cx zl op st (e'::r))
def bC(cx:Cx)(x:Str):Option Bool:=ob (c7 x cx) fun k=>match k with
 | .local=>some true
 | .cell=>some true
 | .free=>some true
 | .globalImplicit=>some false
 |_=>none
noncomputable def sT:Option NameKind→Bool
 |none=>false
 |some k=>match k with
  | .local=>true
  |_=>false
noncomputable def PW :xpZ→Option Const
 | .Constant c _ _=>some c
 |_=>none
def sU(e:xpZ):Option Int:=ob (PW e) fun c=>match c with
 | .int i=>some i
 |_=>none
def pG(e:xpZ):Option Nat:=ob (sU e) fun i=>match i with
 | .ofNat n=>some n
 | .negSucc _=>none
noncomputable def PX :xpZ→Option xpZ
 | .UnaryOp op x _=>match op with
  | .USub=>some x
  |_=>none
 |_=>none
noncomputable def Z0(vs:List MV):Bool:=match vs with
 |[]=>true
 |_::r=>match r with
  |[]=>true
  |_::_=>false
def Fu(st:MS)(a:MV)(lo hi step:Option xpZ):MR:=match hi with
 |some _=>none
 |none=>match lo with
  |none=>ob step fun x=>ob (PX x) fun x=>ob (sU x) fun i=>gd (eqB i 1) (ob (e8 a) fun vs=>gd (Z0 vs) (some (.tup vs,st)))
  |some x=>match step with
   |some _=>none
   |none=>ob (pG x) fun n=>ob (fH a) fun r=>ob (jV st r) fun vs=>some (.ref st.H.length,psh st (.list (vs.drop n)))
noncomputable def ju :xpZ→Option Str
 | .Name x _=>some x
 |_=>none
noncomputable def Fv :xpZ→Option (xpZ×xpZ)
 | .Subscript a b _=>some (a,b)
 |_=>none
def AM(x:Str)(v:MV)(e:xpZ):Option Int:=ob (Fv e) fun p=>ob (ju p.1) fun y=>ob (pG p.2) fun i=>gd (sq y x) (ob (e8 v) fun vs=>ob (aH vs i) b8)
def UD(x:Str)(ifs:List xpZ)(v:MV):Option Int:=match ifs with
 |[]=>some 1
 |c::r=>match r with
  |[]=>AM x v c
  |_::_=>none
def jW(x:Str)(elt:xpZ)(ifs:List xpZ):List MV→Option (List MV)
 |[]=>some []
 |v::r=>ob (UD x ifs v) fun i=>match eqB i 0 with
  |true=>jW x elt ifs r
  |false=>ob (AM x v elt) fun k=>ob (jW x elt ifs r) fun ys=>some (.int k::ys)
def sV(it:xpZ)(x:Str)(elt:xpZ)(ifs:List xpZ)(vs:List MV):Option (List MV):=match ju it with
 |some _=>jW x elt ifs vs
 |none=>match vs with
  |[]=>some []
  |_::_=>none
noncomputable def nf:NameKind→Bool
 | .free=>true
 |_=>false
noncomputable def nh:Option NameKind→Bool
 |none=>false
 |some k=>match k with
  | .cell=>true
  |_=>false
def fz(cx:Cx)(zl:Loc):List (Str×NameKind)→Bool
 |[]=>true
 |(x,k)::r=>match nf k with
  |true=>an (nh (c7 x cx)) (an (c7 x zl).isSome (fz cx zl r))
  |false=>fz cx zl r
def Fw(names:List (Str×NameKind))(y:Str×NameKind):Bool:=match y.2 with
 | .cell=>false
 | .local=>sT (c7 y.1 names)
 |_=>true
def iQ(cx:Cx)(zl:Loc)(x:Str)(names:List (Str×NameKind)):Bool:=an (fz cx zl names) (an (sT (c7 x names)) (an (!(sq x (sO "__debug__"))) (names.all (Fw names))))
def VB(a p:Pos)(n:Nat):Bool:=an (Nat.beq a.endLine p.line) (Nat.blt n 30)
noncomputable def AN{α:Type}(l:List α):Bool:=match l with
 |[]=>true
 |_::_=>false
def iR:xpZ→Bool
 | .Call _ as ks _=> !(an (AN as) (AN ks))
 |_=>true
def sW(o:xpZ)(a p:Pos)(n:Nat):Bool:=an (iR o) (VB a p n)
noncomputable def Z1(st:MS)(c:Const):MR:=match c with
 | .none=>some (.none,st)
 | .bool b=>some (.bool b,st)
 | .int i=>some (.int i,st)
 | .str s=>some (.str s,st)
 |_=>none
def VC(cx:Cx)(zl:Loc)(st:MS)(x:Str):MR:=ob (bC cx x) fun b=>match b with
 |true=>(c7 x zl).map fun v=>(v,st)
 |false=>(vy x Uu gtab).map fun v=>(v,st)
def PY(ih:Ih)(cx:Cx)(zl:Loc)(st:MS)(a:MV)(i:xpZ):MR:=match i with
 | .Slice lo hi step _=>Fu st a lo hi step
 |i=>pb (ih.ev cx zl st i) fun k st=>(fT st a k).map fun v=>(v,st)
def Fx(ih:Ih)(cx:Cx)(zl:Loc)(st:MS)(op:PySem.UnaryOp)(x:xpZ):MR:=match op with
 | .Not=>pb (ih.ev cx zl st x) fun a st=>(fR st a).map fun b=>(.bool (!b),st)
 | .USub=>pb (ih.ev cx zl st x) fun a st=>ob (b8 a) fun i=>some (.int (-i),st)
 |_=>none
def evQ{α:Type}(ih:Ih)(cx:Cx)(zl:Loc)(st:MS)(l:xpZ)(ops:List CmpOp)(rs:List xpZ)(f:Bool→α):Option (α×MS):=match ops with
 |[]=>none
 |op::ops=>match ops with
  |_::_=>none
  |[]=>match rs with
   |[]=>none
   |r::rs=>match rs with
    |_::_=>none
    |[]=>pb (ih.ev cx zl st l) fun a st=>pb (ih.ev cx zl st r) fun b st=>(ck st op a b).map fun c=>(f c,st)
def PZ(ih:Ih)(cx:Cx)(zl:Loc)(st:MS)(args:List xpZ)(pos:Pos)(f:xpZ):MR:=match f with
 | .Name g _=>ob (bC cx g) fun b=>match b with
  |true=>none
  |false=>pb (bU ih.ev cx zl st args) fun vs st=>match vy g wP ftab with
   |some fi=>ih.cal fi vs st
   |none=>match vy g wQ ctab with
    |some c=>callC ih c vs st
    |none=>lm g vs st
 | .Attribute o m apos=>gd (sW o apos pos args.length) (pb (ih.ev cx zl st o) fun a st=>ob (cp st a m) fun k=>pb (bU ih.ev cx zl st args) fun vs st=>lu ih k a vs st)
 |_=>none
noncomputable def P0 :ScopeKind→Bool
 | .function=>true
 |_=>false
def P4(gs:List Comprehension):Option (Str×xpZ×List xpZ):=match gs with
 |[]=>none
 |g::r=>match r with
  |_::_=>none
  |[]=>match g with
   |⟨t,it,ifs,a⟩=>ob (ju t) fun x=>gd (eqB a 0) (some (x,it,ifs))
def Z2(ih:Ih)(cx:Cx)(zl:Loc)(st:MS)(elt:xpZ)(gs:List Comprehension)(sc:Scope):MR:=ob (P4 gs) fun g=>pb (ih.ev cx zl st g.2.1) fun a st=>ob (fH a) fun r=>ob (jV st r) fun vs=>gd (iQ cx zl g.1 sc.names) (ob (sV g.2.1 g.1 elt g.2.2 vs) fun ys=>gd (P0 sc.kind) (some (.ref st.H.length,psh st (.list ys))))
def jv(ih:Ih)(cx:Cx)(zl:Loc)(st:MS)(e:xpZ):MR:=match e with
 | .Constant c _ _=>Z1 st c
 | .Name x _=>VC cx zl st x
 | .Attribute o x _=>gd (iR o) (pb (ih.ev cx zl st o) fun a st=>(ll st a x).map fun v=>(v,st))
 | .Subscript o i _=>pb (ih.ev cx zl st o) fun a st=>PY ih cx zl st a i
 | .Compare l ops rs _=>evQ ih cx zl st l ops rs .bool
 | .BoolOp op vs _=>dW ih cx zl op st vs
 | .UnaryOp op x _=>Fx ih cx zl st op x
 | .BinOp l op r _=>pb (ih.ev cx zl st l) fun a st=>pb (ih.ev cx zl st r) fun b st=>qj st op a b
 | .IfExp t a b _=>pb (ih.tst cx zl st t) fun c st=>match c with
  |true=>ih.ev cx zl st a
  |false=>ih.ev cx zl st b
 | .Tuple es _ _=>pb (bU ih.ev cx zl st es) fun vs st=>fy vs.length (some (.tup vs,st))
 | .List es _=>pb (bU ih.ev cx zl st es) fun vs st=>fy vs.length (some (.ref st.H.length,psh st (.list vs)))
 | .Dict ks vs _=>match ks with
  |_::_=>none
  |[]=>match vs with
   |_::_=>none
   |[]=>some (.ref st.H.length,psh st (.dict []))
 | .Call f args ks pos=>match ks with
  |_::_=>none
  |[]=>PZ ih cx zl st args pos f
 | .ListComp elt gs sc _=>Z2 ih cx zl st elt gs sc
 |_=>none
def cF(ih:Ih)(cx:Cx)(zl:Loc)(op:PySem.BoolOp):MS→List xpZ→Option (Bool×MS)
 |st,[]=>some (match op with| .And=>true| .Or=>false,st)
 |st,e::r=>pb (ih.tst cx zl st e) fun b st=>Ft op b (some (b,st)) (cF ih cx zl op st r)
noncomputable def iS:xpZ→Bool
 | .Name .. =>true
 | .Attribute .. =>true
 | .Call .. =>true
 | .Subscript .. =>true
 | .BinOp .. =>true
 | .Constant .. =>true
 |_=>false
def iT(ih:Ih)(cx:Cx)(zl:Loc)(st:MS)(e:xpZ):Option (Bool×MS):=match e with
 | .UnaryOp op x _=>match op with
  | .Not=>pb (ih.tst cx zl st x) fun b st=>some (!b,st)
  |_=>none
 | .BoolOp op vs _=>cF ih cx zl op st vs
 | .Compare l ops rs _=>evQ ih cx zl st l ops rs fun c=>c
 |e=>gd (iS e) (pb (ih.ev cx zl st e) fun v st=>(fR st v).map fun b=>(b,st))
def lx(st:MS)(o k v:MV):Option MS:=ob (fH o) fun r=>ob (aH st.H r) fun o=>match o with
 | .list vs=>ob (dn k) fun n=>gd (Nat.blt n vs.length) (some (wr st r (.list (bO v vs n))))
 | .dict es=>fy es.length ((sS k v es).map fun es'=>wr st r (.dict es'))
 |_=>none
def wU(st:MS)(o:MV)(x:Str)(v:MV):Option MS:=ob (fH o) fun r=>ob (aH st.H r) fun o=>inA st o fun c d es=>ob ((dS c flds).bind (c7 x)) fun _=>gd (Nat.blt es.length 900) (some (wr st d (.idict c (c8 x v es))))
def dw(cx:Cx)(x:Str):Bool:=sT (c7 x cx)
def ni(cx:Cx):List xpZ→Option (List Str)
 |[]=>some []
 |e::r=>ob (ju e) fun x=>gd (dw cx x) ((ni cx r).map (x::·))
def putAll:List Str→List MV→Loc→Option Loc
 |[],vs,zl=>VA vs (some zl)
 |x::xs,vs,zl=>match vs with
  |[]=>none
  |v::vs=>putAll xs vs (c8 x v zl)
def bL(ih:Ih)(cx:Cx)(zl:Loc)(st:MS)(t:xpZ)(v:MV):Option (Loc×MS):=match t with
 | .Name x _=>gd (dw cx x) (some (c8 x v zl,st))
 | .Tuple es _ _=>ob (e8 v) fun vs=>ob (ni cx es) fun xs=>(putAll xs vs zl).map fun l=>(l,st)
 | .Attribute o x _=>pb (ih.ev cx zl st o) fun a st=>(wU st a x v).map fun st=>(zl,st)
 | .Subscript o i _=>pb (ih.ev cx zl st o) fun a st=>pb (ih.ev cx zl st i) fun k st=>(lx st a k v).map fun st=>(zl,st)
 |_=>none
noncomputable def jw:List Itm→Option (List Itm)
 |[]=>none
 | .stm _::K=>jw K
 |k::K=>some (k::K)
def sX(st:MS)(s:Src)(i:Nat):Option (Option MV):=match s with
 | .tup vs=>some (aH vs i)
 | .lst r=>ob (jV st r) fun vs=>some (aH vs i)
 | .rng n=>some (match Nat.blt i n with|true=>some (.int (.ofNat i))|false=>none)
def nj(st:MS)(v:MV):Option (Src×MS):=match v with
 | .tup vs=>some (.tup vs,st)
 | .ref r=>ob (jV st r) fun _=>some (.lst r,st)
 |_=>none
noncomputable def P5 :Option Bool→Bool
 |some b=> !b
 |none=>false
def wV(cx:Cx)(e:xpZ):Option xpZ:=match e with
 | .Call f as ks _=>ob (ju f) fun g=>match as with
  |[]=>none
  |a::as=>match as with
   |_::_=>none
   |[]=>match ks with
    |_::_=>none
    |[]=>gd (sq g (sO "range")) (gd (P5 (bC cx g)) (some a))
 |_=>none
def bv(ih:Ih)(cx:Cx)(zl:Loc)(st:MS)(e:xpZ):Option (Src×MS):=match wV cx e with
 |some a=>pb (ih.ev cx zl st a) fun v st=>ob (dn v) fun n=>fy n (some (.rng n,st))
 |none=>pb (ih.ev cx zl st e) fun v st=>nj st v
noncomputable def dX(e:xpZ):Bool:=match e with
 | .ListComp .. =>false
 | .SetComp .. =>false
 | .DictComp .. =>false
 |_=>true
noncomputable def tupE:xpZ→Bool
 | .Tuple .. =>true
 |_=>false
def jX(t e:xpZ):Bool:=an (dX e) (!(an (tupE t) (tupE e)))
noncomputable def Fy :Operator→Bool
 | .Add=>true
 |_=>false
def gq(ih:Ih)(cx:Cx)(K:List Itm)(zl:Loc)(st:MS)(ss:List Stmt)(s:Stmt):MR:=match s with
 | .Return e _=>match e with
  |some e=>ih.ev cx zl st e
  |none=>some (.none,st)
 | .Expr e _=>gd (dX e) (pb (ih.ev cx zl st e) fun _ st=>ih.run cx (.stm ss::K) zl st)
 | .Assign ts e _=>match ts with
  |[]=>none
  |t::ts=>match ts with
   |_::_=>none
   |[]=>gd (jX t e) (pb (ih.ev cx zl st e) fun v st=>pb (bL ih cx zl st t v) fun zl st=>ih.run cx (.stm ss::K) zl st)
 | .AugAssign t op e _=>ob (ju t) fun x=>gd (dw cx x) (ob (c7 x zl) fun a=>pb (ih.ev cx zl st e) fun b st=>gd (Fy op) (ob (b8 a) fun i=>ob (b8 b) fun j=>ih.run cx (.stm ss::K) (c8 x (.int (i+j)) zl) st))
 | .If t a b _=>pb (ih.tst cx zl st t) fun c st=>match c with
  |true=>ih.run cx (.stm a::.stm ss::K) zl st
  |false=>ih.run cx (.stm b::.stm ss::K) zl st
 | .While t body el _=>match el with
  |[]=>ih.run cx (.whl t body::.stm ss::K) zl st
  |_::_=>none
 | .For x it body el _=>match el with
  |[]=>pb (bv ih cx zl st it) fun s st=>ih.run cx (.forI x s 0 body::.stm ss::K) zl st
  |_::_=>none
 | .Continue _=>ob (jw K) fun K=>ih.run cx K zl st
 | .Try body hs el fin _=>match hs with
  |[]=>none
  |_::_=>match el with
   |_::_=>none
   |[]=>match fin with
    |_::_=>none
    |[]=>ih.run cx (.stm body::.stm ss::K) zl st
 |_=>none
def wW(ih:Ih)(cx:Cx)(K:List Itm)(zl:Loc)(st:MS):MR:=match K with
 |[]=>some (.none,st)
 |k::K=>match k with
  | .stm ss=>match ss with
   |[]=>ih.run cx K zl st
   |s::ss=>gq ih cx K zl st ss s
  | .forI x s i body=>ob (sX st s i) fun o=>match o with
   |some v=>pb (bL ih cx zl st x v) fun zl st=>ih.run cx (.stm body::.forI x s (Nat.succ i) body::K) zl st
   |none=>ih.run cx K zl st
  | .whl t body=>pb (ih.tst cx zl st t) fun c st=>match c with
   |true=>ih.run cx (.stm body::.whl t body::K) zl st
   |false=>ih.run cx K zl st
abbrev aX:=Nat→Nat→List MV→MS→MR
variable{O:aX}
noncomputable def aC:aX:=fun _ _ _ _=>none
def sY(O:aX)(rn:Nat→Cx→List Itm→Loc→MS→MR)(d:Nat)(f:FI)(args:List MV)(st:MS):MR:=match O f.ad d args st with
 |some r=>some r
 |none=>match d with
  |0=>none
  |d+1=>pF (rn d) f args st
def aA(O:aX):Nat→Nat→Ih
 |0,_=>⟨fun _ _ _ _=>none,fun _ _ _ _=>none,fun _ _ _ _=>none,fun _ _ _=>none⟩
 |n+1,d=>⟨jv (aA O n d),iT (aA O n d),wW (aA O n d),sY O (fun d=>(aA O n d).run) d⟩
theorem aF{α:Type}{x:α}{P:Prop}(h:none=some x):P:=nomatch h
theorem Fz{P:Prop}(h:true=false):P:=nomatch h
theorem cM{P:Prop}(h:false=true):P:=nomatch h
noncomputable def aQ(x:Nat):List Nat→Bool
 |[]=>false
 |y::r=>match Nat.beq y x with
  |true=>true
  |false=>aQ x r
theorem cN{x:Nat}:∀{l:List Nat},aQ x l=true→x ∈ l
 |y::r,e=>by
  unfold aQ at e;split at e
  ·rename_i h;exact ebZ h ▸ .head _
  ·exact .tail _ (cN e)
section
variable{α β:Type}{v:α}
theorem fU{b:Bool}{r:Option α}(e:gd b r=some v):b=true∧r=some v:=match b,e with
 |true,e=>⟨rfl,e⟩
theorem bV{o:Option β}{f:β→Option α}(e:ob o f=some v):∃x,o=some x∧f x=some v:=match o,e with
 |some x,e=>⟨x,rfl,e⟩
theorem qk{r:Option (β×MS)}{f:β→MS→Option α}(e:pb r f=some v):∃x s,r=some (x,s)∧f x s=some v:=match r,e with
 |some p,e=>⟨p.1,p.2,rfl,e⟩
theorem cO{p q:Bool}(e:an p q=true):p=true∧q=true:=match p,e with
 |true,e=>⟨rfl,e⟩
theorem VD{n:Nat}{r:Option α}(e:fy n r=some v):n < 1048576∧r=some v:=
 have q:gd (Uv n) r=some v:=e
 ⟨lbZ (fU q).1,(fU q).2⟩
section
variable{x:MV}
theorem sZ{y:Bool}(e:sQ x=some y):x=.bool y:=by
 cases x <;>first|exact aF e|exact oiZ e ▸rfl
theorem bd{y:Int}(e:b8 x=some y):x=.int y:=by
 cases x <;>first|exact aF e|exact oiZ e ▸rfl
theorem P6{y:Str}(e:PR x=some y):x=.str y:=by
 cases x <;>first|exact aF e|exact oiZ e ▸rfl
theorem VE{y:Nat}(e:ZW x=some y):x=.kd y:=by
 cases x <;>first|exact aF e|exact oiZ e ▸rfl
theorem di{y:List MV}(e:e8 x=some y):x=.tup y:=by
 cases x <;>first|exact aF e|exact oiZ e ▸rfl
theorem cf{y:Nat}(e:fH x=some y):x=.ref y:=by
 cases x <;>first|exact aF e|exact oiZ e ▸rfl
theorem wX(e:PS x=true):x=.none:=by
 cases x <;>first|rfl|exact cM e
theorem fV{n:Nat}(e:dn x=some n):x=.int (.ofNat n):=by
 obtain⟨i,h,e⟩:=bV e
 cases i with
 |ofNat k=>exact oiZ e ▸bd h
 |negSucc k=>exact aF e
end
theorem gr{st:MS}{r:Nat}{vs:List MV}(e:jV st r=some vs):aH st.H r=some (.list vs):=by
 obtain⟨o,h,e⟩:=bV e
 cases o <;>first|exact aF e|exact oiZ e ▸h
theorem AO{e a b:xpZ}(h:Fv e=some (a,b)):∃p,e=.Subscript a b p:=by
 cases e with
 |Subscript x y p=>
  obtain⟨rfl,rfl⟩:=Prod.mk.inj (oiZ h);exact⟨p,rfl⟩
 |_=>exact aF h
theorem jY{e:xpZ}{x:Str}(h:ju e=some x):∃p,e=.Name x p:=by
 cases e with
 |Name y p=>exact⟨p,oiZ h ▸rfl⟩
 |_=>exact aF h
theorem P7{e:xpZ}{c:Const}(h:PW e=some c):∃j p,e=.Constant c j p:=by
 cases e with
 |Constant d j p=>exact⟨j,p,oiZ h ▸rfl⟩
 |_=>exact aF h
theorem sb{e:xpZ}{i:Int}(h:sU e=some i):∃j p,e=.Constant (.int i) j p:=by
 obtain⟨c,h1,h⟩:=bV h;obtain⟨j,p,rfl⟩:=P7 h1
 cases c with
 |int k=>exact⟨j,p,oiZ h ▸rfl⟩
 |_=>exact aF h
theorem nk{e:xpZ}{n:Nat}(h:pG e=some n):∃j p,e=.Constant (.int (.ofNat n)) j p:=by
 obtain⟨i,h1,h⟩:=bV h;obtain⟨j,p,rfl⟩:=sb h1
 cases i with
 |ofNat k=>exact⟨j,p,oiZ h ▸rfl⟩
 |negSucc k=>exact aF h
theorem ly{o:Option NameKind}(h:sT o=true):o=some .local:=by
 rcases o with _|k
 ·exact cM h
 ·cases k <;>first|rfl|exact cM h
theorem pH{o:Option NameKind}(h:nh o=true):o=some .cell:=by
 rcases o with _|k
 ·exact cM h
 ·cases k <;>first|rfl|exact cM h
theorem pI{ev:Cx→Loc→MS→xpZ→MR}{cx:Cx}{zl:Loc}{st:MS}{e:xpZ}{es:List xpZ}{r:List MV×MS}(h:bU ev cx zl st (e::es)=some r):∃v s1 r2,ev cx zl st e=some (v,s1)∧bU ev cx zl s1 es=some r2∧r=(v::r2.1,r2.2):=
 let ⟨v,s1,e1,h⟩:=qk h
 let ⟨vs,s2,e2,h⟩:=qk h
 ⟨v,s1,(vs,s2),e1,e2,(oiZ h).symm⟩
noncomputable def Al(r:Option α)(P:α→Prop):Prop:=∀x,r=some x→P x
namespace Al
variable{P:α→Prop}
theorem no:Al none P:=fun _ h=>aF h
theorem so{x:α}(h:P x):Al (some x) P:=fun _ e=>oiZ e ▸h
theorem ob{o:Option β}{f:β→Option α}(k:∀x,o=some x→Al (f x) P):Al (ob o f) P:=fun v e=>
 let ⟨x,h,e⟩:=bV e
 k x h v e
theorem pb{r:Option (β×MS)}{f:β→MS→Option α}(k:∀x s,r=some (x,s)→Al (f x s) P):Al (pb r f) P:=fun v e=>
 let ⟨x,s,h,e⟩:=qk e
 k x s h v e
theorem gd{b:Bool}{r:Option α}(k:b=true→Al r P):Al (gd b r) P:=fun v e=>k (fU e).1 v (fU e).2
theorem ok{n:Nat}{r:Option α}(k:n < 1048576→Al r P):Al (fy n r) P:=fun v e=>k (VD e).1 v (VD e).2
theorem mp{o:Option β}{f:β→α}(k:∀x,o=some x→P (f x)):Al (o.map f) P:=match o,k with
 |none,_=>no
 |some x,k=>so (k x rfl)
theorem bl{b:Bool}{x y:Option α}(h:b=true→Al x P)(k:b=false→Al y P):Al (match b with|true=>x|false=>y) P:=match b,h,k with
 |true,h,_=>h rfl
 |false,_,k=>k rfl
theorem num{v:MV}{f:Int→Option α}{g:Nat→Option α}(h:∀i,v=.int i→Al (f i) P)(k:∀t,v=.kd t→Al (g t) P):Al (qg v f g) P:=by
 cases v with
 |int i=>exact h i rfl
 |kd t=>exact k t rfl
 |_=>exact no
theorem a1{vs:List MV}{f:MV→Option α}(k:∀a,vs=[a]→Al (f a) P):Al (PV vs f) P:=match vs,k with
 |[],_=>no
 |[a],k=>k a rfl
 |_::_::_,_=>no
theorem a0{vs:List MV}{r:Option α}(k:vs=[]→Al r P):Al (VA vs r) P:=match vs,k with
 |[],k=>k rfl
 |_::_,_=>no
theorem a2{vs:List MV}{f:MV→MV→Option α}(k:∀a b,vs=[a,b]→Al (f a b) P):Al (UB vs f) P:=match vs,k with
 |[],_=>no
 |a::r,k=>a1 fun b h=>k a b (h ▸rfl)
theorem inA{st:MS}{o:MO}{f:Nat→Nat→List (Str×MV)→Option α}(k:∀c d es,o=.inst c d→aH st.H d=some (.idict c es)→Al (f c d es) P):Al (inA st o f) P:=by
 refine ob fun p hp=>ob fun o2 h2=>ob fun q hq=>gd fun hb=>?_
 cases o <;>first|exact aF hp|skip
 cases o2 <;>first|exact aF hq|skip
 have e1:=oiZ hp;have e2:=oiZ hq;have e3:=ebZ hb;subst e1 e2
 exact k _ _ _ rfl ((show _=_ from e3) ▸h2)
theorem evQ{ih:Ih}{cx:Cx}{zl:Loc}{st:MS}{l:xpZ}{ops:List CmpOp}{rs:List xpZ}{f:Bool→α}{P:α×MS→Prop}(k:∀op r x zz y st2 c,ih.ev cx zl st l=some (x,zz)→ih.ev cx zl zz r=some (y,st2)→ck st2 op x y=some c→ops=[op]→rs=[r]→P (f c,st2)):Al (evQ ih cx zl st l ops rs f) P:=
 match ops,rs,k with
 |[],_,_=>no
 |_::_::_,_,_=>no
 |[_],[],_=>no
 |[_],_::_::_,_=>no
 |[op],[r],k=>pb fun x zz e1=>pb fun y st2 e2=>mp fun c e3=>k op r x zz y st2 c e1 e2 e3 rfl rfl
theorem mono{r:Option α}{R:α→Prop}(h:Al r P)(k:∀x,P x→R x):Al r R:=fun x e=>k x (h x e)
end Al
def aB(g:MV→Option β)(l:List MV)(f:β→List MV→Option α):Option α:=match l with
 |[]=>none
 |x::l=>ob (g x) fun y=>f y l
theorem wA{g:MV→Option β}{c:β→MV}(hg:∀x y,g x=some y→x=c y){f:β→List MV→Option α}{P:List MV→Prop}(k:∀x y l,g x=some y→f y l=some v→P (c y::l)):∀l,aB g l f=some v→P l
 |[],e=>aF e
 |x::l,e=>
  let ⟨y,h,e⟩:=bV e
  hg x y h ▸k x y l h e
def rq(r:Nat)(x:MV):Option Unit:=ob (fH x) fun i=>gd (Nat.beq i r) (some ())
def nq(p:List Nat)(x:MV):Option Nat:=ob (dn x) fun n=>gd (aQ n p) (some n)
noncomputable def yq(x:MV):Option Unit:=match x with
 | .anyv=>some ()
 |_=>none
theorem rqI{r:Nat}(x:MV)(y:Unit)(e:rq r x=some y):x=.ref r:=
 let ⟨_,h,e⟩:=bV e
 ebZ (fU e).1 ▸cf h
theorem Z3{p:List Nat}(x:MV)(n:Nat)(e:nq p x=some n):x=.int (.ofNat n)∧n ∈ p:=
 let ⟨_,h,e⟩:=bV e
 oiZ (fU e).2 ▸⟨fV h,cN (fU e).1⟩
theorem yqI(x:MV)(y:Unit)(e:yq x=some y):x=.anyv:=by
 cases x <;>first|rfl|exact aF e
def aR(r:Nat)(l:List MV)(f:List MV→Option α):Option α:=aB (rq r) l fun _ l=>f l
def aN(p:List Nat)(l:List MV)(f:Nat→List MV→Option α):Option α:=aB (nq p) l f
def aI(l:List MV)(f:Int→List MV→Option α):Option α:=aB b8 l f
def aV(l:List MV)(f:MV→List MV→Option α):Option α:=aB some l f
def aY(l:List MV)(f:List MV→Option α):Option α:=aB yq l fun _ l=>f l
noncomputable def aE(l:List MV)(r:Option α):Option α:=match l with
 |[]=>r
 |_::_=>none
section
variable{P:List MV→Prop}
theorem iw{r:Nat}{f:List MV→Option α}(k:∀l,f l=some v→P (.ref r::l)):∀l,aR r l f=some v→P l:=wA (c:=fun _=>.ref r) rqI fun _ _ l _ e=>k l e
theorem gA{p:List Nat}{f:Nat→List MV→Option α}(k:∀n ∈ p,∀l,f n l=some v→P (.int (.ofNat n)::l)):∀l,aN p l f=some v→P l:=wA (c:=fun n=>.int (.ofNat n)) (fun x y h=>(Z3 x y h).1) fun x n l h e=>k n (Z3 x n h).2 l e
theorem wY{f:Int→List MV→Option α}(k:∀n l,f n l=some v→P (.int n::l)):∀l,aI l f=some v→P l:=wA (c:=.int) (fun _ _ h=>bd h) fun _ n l _ e=>k n l e
theorem GA{f:MV→List MV→Option α}(k:∀n l,f n l=some v→P (n::l)):∀l,aV l f=some v→P l:=wA (c:=fun x=>x) (fun _ _ h=>oiZ h) fun _ n l _ e=>k n l e
theorem aYP{f:List MV→Option α}(k:∀l,f l=some v→P (.anyv::l)):∀l,aY l f=some v→P l:=wA (c:=fun _=>.anyv) yqI fun _ _ l _ e=>k l e
theorem ga{r:Option α}(k:r=some v→P []):∀l,aE l r=some v→P l
 |[],e=>k e
 |_::_,e=>aF e
end
theorem GB{a:α}{P:α→Prop}(k:P a)(e:some a=some v):P v:=oiZ e ▸k
theorem ai(l:List α)(F G:α→β)(h:l.map F=l.map G):∀x ∈ l,F x=G x:=List.map_inj_left.mp h
theorem allB{β:Type}(F G:Bool→β)(h:[F true,F false]=[G true,G false]):∀b,F b=G b:=fun b=>by
 injection h with h1 h2;injection h2 with h2 _
 cases b <;>assumption
end
theorem sd(a b:Nat)(x y:List Nat):sP (a::x) (b::y)=(match Nat.beq a b with|true=>sP x y|false=>false):=by
 show @Bool.rec (fun _=>Bool) false (sP x y) (Nat.beq a b)=_
 cases Nat.beq a b <;>rfl
theorem dB{α:Type}(x:Str)(p:Str×α)(r:List (Str×α)):c7 x (p::r)=(match sq p.1 x with|true=>some p.2|false=>c7 x r):=by
 show @Bool.rec (fun _=>Option α) (c7 x r) (some p.2) (sq p.1 x)=_
 cases sq p.1 x <;>rfl
theorem sf{α:Type}(n:Nat)(x:List Nat)(c:Nat)(cs:List Nat)(p:Str×α)(r:List (Str×α)):PP n x (c::cs) (p::r)=(match Nat.beq c n with
  |true=>match sP p.1.cps.toList x with
   |true=>some p.2
   |false=>none
  |false=>PP n x cs r):=by
 show @Bool.rec (fun _=>Option α) (PP n x cs r) (@Bool.rec (fun _=>Option α) none (some p.2) (sP p.1.cps.toList x)) (Nat.beq c n)=_
 cases Nat.beq c n
 ·rfl
 ·cases sP p.1.cps.toList x <;>rfl
theorem ql{α:Type}(x:α)(l:List α)(n:Nat):aH (x::l) (n+1)=aH l n:=rfl
theorem qm{α:Type}(x:α)(l:List α):aH (x::l) 0=some x:=rfl
theorem pJ:∀{x y:List Nat},sP x y=true ↔ x=y
 |[],[]=>⟨fun _=>rfl,fun _=>rfl⟩
 |[],_::_=>⟨fun h=>Bool.noConfusion (h:false=true),fun h=>(nomatch h)⟩
 |_::_,[]=>⟨fun h=>Bool.noConfusion (h:false=true),fun h=>(nomatch h)⟩
 |a::x,b::y=>by
  rw [sd]
  cases h:Nat.beq a b with
  |true=>
   have:=ebZ h;subst this
   show sP x y=true ↔ _
   rw [pJ,List.cons.injEq]
   exact⟨fun q=>⟨rfl,q⟩,fun q=>q.2⟩
  |false=>
   have:a≠b:=Nat.ne_of_beq_eq_false h
   exact⟨fun q=>Bool.noConfusion (q:false=true),fun q=>absurd (List.cons.inj q).1 this⟩
theorem sq_iff{a b:Str}:sq a b=true ↔ a=b:=by
 show sP a.cps.toList b.cps.toList=true ↔ _
 rw [pJ];constructor
 ·intro h;cases a;cases b;simp only [Str.mk.injEq];exact Array.toList_inj.mp h
 ·rintro rfl;rfl
theorem pM{α:Type}{n:Nat}{x:Str}{v:α}:∀{cs:List Nat} {l:List (Str×α)},PP n x.cps.toList cs l=some v→(x,v) ∈ l
 |[],l,e=>by cases l <;>cases e
 |c::cs,[],e=>by cases e
 |c::cs,p::r,e=>by
  rw [sf]at e;split at e
  ·split at e
   ·rename_i q;cases e;have:p.1=x:=sq_iff.mp q;subst this;exact .head _
   ·cases e
  ·exact .tail _ (pM e)
theorem gz{α:Type}{x:Str}{v:α}{cs:List Nat}{l:List (Str×α)}(e:vy x cs l=some v):(x,v) ∈ l:=pM e
theorem sq_false{a b:Str}:sq a b=false ↔ a≠b:=by
 constructor
 ·intro h e;rw [sq_iff.mpr e]at h;cases h
 ·intro h
  cases q:sq a b with
  |false=>rfl
  |true=>exact absurd (sq_iff.mp q) h
theorem cP{α:Type}(x:Str):∀l:List (Str×α),c7 x l=l.lookup x
 |[]=>rfl
 |p::r=>by
  rw [dB];obtain⟨y,v⟩:=p;rw [ylZ]
  cases h:sq y x with
  |true=>
   have:=sq_iff.mp h;subst this;simp
  |false=>
   have:=sq_false.mp h
   have h2:(x==y)=false:=bfZ fun e=>this e.symm
   simp only [h2];exact cP x r
theorem aJ{α:Type}:∀(l:List α) (n:Nat),aH l n=l[n]?
 |[],n=>by simp [aH]
 |x::l,0=>by rw [qm];simp
 |x::l,n+1=>by rw [ql,aJ l n];simp
theorem aj{α:Type}(v:α):∀(l:List α) (n:Nat),bO v l n=l.set n v
 |[],n=>by simp [bO]
 |x::l,0=>by show v::l=_;simp
 |x::l,n+1=>by show x::bO v l n=_;rw [aj v l n];simp
noncomputable abbrev ay(ws:List Value):Obj:={cls:=.type "tuple",data:=.seq ws.toArray}
noncomputable def bQ(ks:List (Bool×Int))(t:Nat):Option Int:=match ks[t]? with
 |some (true,k)=>some k
 |_=>none
def KN(ks:List (Bool×Int)):Prop:=∀i j k,bQ ks i=some k→bQ ks j=some k→i=j
def KB(ks:List (Bool×Int)):Prop:=∀i k,bQ ks i=some k→(25:Int)≤k
mutual
inductive VR(as:List Addr)(ks:List (Bool×Int))(im:List (Addr×Obj)):MV→Value→Prop
 |none:VR as ks im .none .none
 |bool (b:Bool):VR as ks im (.bool b) (.bool b)
 |int (i:Int) (t:Tok):VR as ks im (.int i) (.int i t)
 |str (x:Str) (t:Tok):VR as ks im (.str x) (.str x t)
 |kd {n:Nat} {k:Int} (t:Tok) (h:bQ ks n=some k):VR as ks im (.kd n) (.int k t)
 |op {n:Nat} {k:Int} (t:Tok) (h:ks[n]? =some (false,k)):VR as ks im (.op n) (.int k t)
 |anyv {w:Value} (h:handedIn w=true):VR as ks im .anyv w
 |top (a:Nat):VR as ks im (.top a) (.ref a)
 |ref {i:Nat} {a:Addr} (h:as[i]? =some a):VR as ks im (.ref i) (.ref a)
 |tup {vs:List MV} {ws:List Value} {a:Addr} (h:(a,ay ws) ∈ im) (hs:VRs as ks im vs ws) (hl:vs.length≤1048576):VR as ks im (.tup vs) (.ref a)
inductive VRs(as:List Addr)(ks:List (Bool×Int))(im:List (Addr×Obj)):List MV→List Value→Prop
 |nil:VRs as ks im [] []
 |cons {v:MV} {vs:List MV} {w:Value} {ws:List Value} (h:VR as ks im v w) (hs:VRs as ks im vs ws):VRs as ks im (v::vs) (w::ws)
end
section
variable{as:List Addr}{ks:List (Bool×Int)}{im:List (Addr×Obj)}{x:Value}
def VI(as:List Addr)(ks:List (Bool×Int))(im:List (Addr×Obj))(v:MV)(x:Value):Prop:=match v with
 | .none=>x=.none
 | .bool b=>x=.bool b
 | .int i=>∃t,x=.int i t
 | .str s=>∃t,x=.str s t
 | .kd n=>∃k t,x=.int k t∧bQ ks n=some k
 | .op _=>True
 | .anyv=>True
 | .top a=>x=.ref a
 | .ref i=>∃a,x=.ref a∧as[i]? =some a
 | .tup vs=>∃a ws,x=.ref a∧(a,ay ws) ∈ im∧VRs as ks im vs ws∧vs.length≤1048576
theorem VR.inv{v:MV}(h:VR as ks im v x):VI as ks im v x:=by
 cases h with
 |none=>exact rfl
 |bool b=>exact rfl
 |int i t=>exact⟨t,rfl⟩
 |str i t=>exact⟨t,rfl⟩
 |kd t h=>exact⟨_,t,rfl,h⟩
 |op t h=>exact trivial
 |anyv h=>exact trivial
 |top a=>exact rfl
 |ref h=>exact⟨_,rfl,h⟩
 |tup h hs hl=>exact⟨_,_,rfl,h,hs,hl⟩
noncomputable def VSI(as:List Addr)(ks:List (Bool×Int))(im:List (Addr×Obj))(l:List MV)(xs:List Value):Prop:=match l with
 |[]=>xs=[]
 |v::vs=>∃w ws,xs=w::ws∧VR as ks im v w∧VRs as ks im vs ws
theorem VRs.inv{l:List MV}{xs:List Value}(h:VRs as ks im l xs):VSI as ks im l xs:=by
 cases h with
 |nil=>exact rfl
 |cons h hs=>exact⟨_,_,rfl,h,hs⟩
theorem VR.intI{i:Int}(h:VR as ks im (.int i) x):∃t,x=.int i t:=h.inv
theorem VR.boolI{b:Bool}(h:VR as ks im (.bool b) x):x=.bool b:=h.inv
theorem VR.noneI(h:VR as ks im .none x):x=.none:=h.inv
theorem VR.strI{s:Str}(h:VR as ks im (.str s) x):∃t,x=.str s t:=h.inv
theorem VR.kdI{n:Nat}(h:VR as ks im (.kd n) x):∃k t,x=.int k t∧bQ ks n=some k:=h.inv
theorem VR.topI{a:Nat}(h:VR as ks im (.top a) x):x=.ref a:=h.inv
theorem VR.refI{i:Nat}(h:VR as ks im (.ref i) x):∃a,x=.ref a∧as[i]? =some a:=h.inv
theorem VR.tupI{vs:List MV}(h:VR as ks im (.tup vs) x):∃a ws,x=.ref a∧(a,ay ws) ∈ im∧VRs as ks im vs ws∧vs.length≤1048576:=h.inv
theorem VRs.consI{v:MV}{vs:List MV}{xs:List Value}(h:VRs as ks im (v::vs) xs):∃w ws,xs=w::ws∧VR as ks im v w∧VRs as ks im vs ws:=h.inv
theorem VRs.nilI{xs:List Value}(h:VRs as ks im [] xs):xs=[]:=h.inv
end
section
variable{as:List Addr}{ks:List (Bool×Int)}{im im':List (Addr×Obj)}
theorem be{α:Type}{l l':List α}(h:l <+:l'){i:Nat}{a:α}(e:l[i]? =some a):l'[i]? =some a:=by
 obtain⟨r,rfl⟩:=h;obtain⟨hi,_⟩:=ybZ.mp e;rw [yaZ hi];exact e
theorem gB{ks ks':List (Bool×Int)}(h:ks <+:ks'){t:Nat}{k:Int}(e:bQ ks t=some k):bQ ks' t=some k:=by
 unfold bQ at e ⊢;split at e
 ·rename_i q;rw [be h q];exact e
 ·cases e
theorem VR.mono(ha:as <+:as')(hk:ks <+:ks')(hi:∀p ∈ im,p ∈ im'){v:MV}{w:Value}(h:VR as ks im v w):VR as' ks' im' v w:=
 @VR.rec as ks im (fun v w _=>VR as' ks' im' v w) (fun v w _=>VRs as' ks' im' v w) .none .bool .int .str (fun t h=>.kd t (gB hk h)) (fun t h=>.op t (be hk h)) .anyv .top (fun h=>.ref (be ha h)) (fun h _ hl ih=>.tup (hi _ h) ih hl) .nil (fun _ _ a b=>.cons a b) _ _ h
theorem VRs.mono(ha:as <+:as')(hk:ks <+:ks')(hi:∀p ∈ im,p ∈ im'){v:List MV}{w:List Value}(h:VRs as ks im v w):VRs as' ks' im' v w:=
 @VRs.rec as ks im (fun v w _=>VR as' ks' im' v w) (fun v w _=>VRs as' ks' im' v w) .none .bool .int .str (fun t h=>.kd t (gB hk h)) (fun t h=>.op t (be hk h)) .anyv .top (fun h=>.ref (be ha h)) (fun h _ hl ih=>.tup (hi _ h) ih hl) .nil (fun _ _ a b=>.cons a b) _ _ h
theorem VRs.length{vs:List MV}{ws:List Value}(h:VRs as ks im vs ws):vs.length=ws.length:=by
 induction vs generalizing ws with
 |nil=>exact h.nilI ▸rfl
 |cons v vs ih=>
  obtain⟨w,ws,rfl,_,hs⟩:=h.consI;exact congrArg Nat.succ (ih hs)
theorem VRs.get{vs:List MV}{ws:List Value}(h:VRs as ks im vs ws){i:Nat}{v:MV}(e:vs[i]? =some v):∃w,ws[i]? =some w∧VR as ks im v w:=by
 induction vs generalizing ws i with
 |nil=>exact nomatch (List.getElem?_nil.symm.trans e)
 |cons u vs ih=>
  obtain⟨w,ws,rfl,h0,hs⟩:=h.consI
  cases i with
  |zero=>exact⟨w,rfl,oiZ e ▸h0⟩
  |succ i=>exact ih hs e
theorem VRs.append{vs vs':List MV}{ws ws':List Value}(h:VRs as ks im vs ws)(h':VRs as ks im vs' ws'):VRs as ks im (vs++vs') (ws++ws'):=by
 induction vs generalizing ws with
 |nil=>exact h.nilI ▸h'
 |cons v vs ih=>
  obtain⟨w,ws,rfl,h0,hs⟩:=h.consI;exact .cons h0 (ih hs)
theorem VRs.snoc{vs:List MV}{ws:List Value}{v:MV}{w:Value}(hs:VRs as ks im vs ws)(h:VR as ks im v w):VRs as ks im (vs++[v]) (ws++[w]):=hs.append (.cons h .nil)
theorem VRs.reverse{vs:List MV}{ws:List Value}(h:VRs as ks im vs ws):VRs as ks im vs.reverse ws.reverse:=by
 induction vs generalizing ws with
 |nil=>exact h.nilI ▸ .nil
 |cons v vs ih=>
  obtain⟨w,ws,rfl,h0,hs⟩:=h.consI;rw [List.reverse_cons,List.reverse_cons];exact (ih hs).snoc h0
theorem VRs.drop{vs:List MV}{ws:List Value}(h:VRs as ks im vs ws)(n:Nat):VRs as ks im (vs.drop n) (ws.drop n):=by
 induction vs generalizing ws n with
 |nil=>
  obtain rfl:=h.nilI;rw [List.drop_nil,List.drop_nil];exact .nil
 |cons v vs ih=>
  obtain⟨w,ws,rfl,h0,hs⟩:=h.consI
  cases n with
  |zero=>exact .cons h0 hs
  |succ n=>exact ih hs n
theorem VRs.set{vs:List MV}{ws:List Value}(h:VRs as ks im vs ws){v:MV}{w:Value}(hv:VR as ks im v w)(n:Nat):VRs as ks im (vs.set n v) (ws.set n w):=by
 induction vs generalizing ws n with
 |nil=>exact h.nilI ▸ .nil
 |cons u vs ih=>
  obtain⟨w,ws,rfl,h0,hs⟩:=h.consI
  cases n with
  |zero=>exact .cons hv hs
  |succ n=>exact .cons h0 (ih hs n)
theorem VRs.rep{vs:List MV}{ws:List Value}(h:VRs as ks im vs ws):∀n,VRs as ks im (jt vs n) (List.replicate n ws).flatten
 |0=>.nil
 |n+1=>by
  rw [List.replicate_succ,List.flatten_cons];exact h.append (VRs.rep h n)
end
theorem pc0(w:World)(os:OsState):segRunT treeTable pg w 11 (some (.ref 6)) 1 305 (S0 w.params os) (piecesOf (sl 0 7) ev cE p0 [topFrame fp])=some (.next,S1 w.params os,cE,p1):=by
 rw [ytZ,yuZ];kernel_rfl
theorem pc1(w:World)(os:OsState):segRunT treeTable pg w 11 (some (.ref 6)) 1 394 (S1 w.params os) (piecesOf (sl 7 21) ev cE p1 [topFrame fp])=some (.next,S2 w.params os,cE,p2):=by
 rw [ytZ,yuZ];kernel_rfl
theorem pc2(w:World)(os:OsState):segRunT treeTable pg w 11 (some (.ref 6)) 1 100 (S2 w.params os) (piecesOf (sl 28 11) ev cE p2 [topFrame fp])=some (.next,S3 w.params os,cE,p3):=by
 rw [ytZ,yuZ];kernel_rfl
theorem VF(os:OsState)(w:World):segRunT treeTable pg (w.withFollow "special-get-raises" false) 11 (some (.ref 6)) 1 207 (S3 (w.withFollow "special-get-raises" false).params os) (piecesOf (sl 39 1) ev cE p3 [topFrame fp])=some (.next,S4 (w.withFollow "special-get-raises" false).params os,cE,p4):=by
 rw [ytZ,yuZ];kernel_rfl
theorem VG(os:OsState)(w:World):segRunT treeTable pg (w.withFollow "special-get-raises" true) 11 (some (.ref 6)) 1 207 (S3 (w.withFollow "special-get-raises" true).params os) (piecesOf (sl 39 1) ev cE p3 [topFrame fp])=some (.next,S4 (w.withFollow "special-get-raises" true).params os,cE,p4):=by
 rw [ytZ,yuZ];kernel_rfl
theorem pc3(w:World)(os:OsState):segRunT treeTable pg w 11 (some (.ref 6)) 1 207 (S3 w.params os) (piecesOf (sl 39 1) ev cE p3 [topFrame fp])=some (.next,S4 w.params os,cE,p4):=
 byRow2 "special-get-raises" (P:=fun w=>segRunT treeTable pg w 11 (some (.ref 6)) 1 207 (S3 w.params os) (piecesOf (sl 39 1) ev cE p3 [topFrame fp])=some (.next,S4 w.params os,cE,p4)) (VF os) (VG os) w
theorem VH(os:OsState)(w:World):segRunT treeTable pg (w.withFollow "special-get-raises" false) 11 (some (.ref 6)) 1 207 (S4 (w.withFollow "special-get-raises" false).params os) (piecesOf (sl 40 1) ev cE p4 [topFrame fp])=some (.next,S5 (w.withFollow "special-get-raises" false).params os,cE,p5):=by
 rw [ytZ,yuZ];kernel_rfl
theorem VJ(os:OsState)(w:World):segRunT treeTable pg (w.withFollow "special-get-raises" true) 11 (some (.ref 6)) 1 207 (S4 (w.withFollow "special-get-raises" true).params os) (piecesOf (sl 40 1) ev cE p4 [topFrame fp])=some (.next,S5 (w.withFollow "special-get-raises" true).params os,cE,p5):=by
 rw [ytZ,yuZ];kernel_rfl
theorem pc4(w:World)(os:OsState):segRunT treeTable pg w 11 (some (.ref 6)) 1 207 (S4 w.params os) (piecesOf (sl 40 1) ev cE p4 [topFrame fp])=some (.next,S5 w.params os,cE,p5):=
 byRow2 "special-get-raises" (P:=fun w=>segRunT treeTable pg w 11 (some (.ref 6)) 1 207 (S4 w.params os) (piecesOf (sl 40 1) ev cE p4 [topFrame fp])=some (.next,S5 w.params os,cE,p5)) (VH os) (VJ os) w
theorem pc5(w:World)(os:OsState):segRunT treeTable pg w 11 (some (.ref 6)) 1 376 (S5 w.params os) (piecesOf (sl 41 5) ev cE p5 [topFrame fp])=some (.next,S6 w.params os,cE,p6):=by
 rw [ytZ,yuZ];kernel_rfl
theorem pc6(w:World)(os:OsState):segRunT treeTable pg w 11 (some (.ref 6)) 1 398 (S6 w.params os) (piecesOf (sl 46 13) ev cE p6 [topFrame fp])=some (.next,S7 w.params os,cE,p7):=by
 rw [ytZ,yuZ];kernel_rfl
theorem pc7(w:World)(os:OsState):segRunT treeTable pg w 11 (some (.ref 6)) 1 400 (S7 w.params os) (piecesOf (sl 59 19) ev cE p7 [topFrame fp])=some (.next,S8 w.params os,cE,p8):=by
 rw [ytZ,yuZ];kernel_rfl
theorem pc8(w:World)(os:OsState):segRunT treeTable pg w 11 (some (.ref 6)) 1 374 (S8 w.params os) (piecesOf (sl 78 15) ev cE p8 [topFrame fp])=some (.next,S9 w.params os,cE,p9):=by
 rw [ytZ,yuZ];kernel_rfl
theorem pc9(w:World)(os:OsState):segRunT treeTable pg w 11 (some (.ref 6)) 1 242 (S9 w.params os) (piecesOf (sl 93 1) ev cE p9 [topFrame fp])=some (.next,Yx w.params os,cE,Yy):=by
 rw [ytZ,yuZ];kernel_rfl
theorem VK(w:World)(os:OsState):segRunT treeTable pg w 11 (some (.ref 6)) 1 386 (Yx w.params os) (piecesOf (sl 94 6) ev cE Yy [topFrame fp])=some (.next,ZA w.params os,cE,ZB):=by
 rw [ytZ,yuZ];kernel_rfl
theorem VL(w:World)(os:OsState):segRunT treeTable pg w 11 (some (.ref 6)) 1 142 (ZA w.params os) (piecesOf (sl 100 10) ev cE ZB [topFrame fp])=some (.next,PK w.params os,cE,PL):=by
 rw [ytZ,yuZ];kernel_rfl
theorem P8(os:OsState)(w:World):segRunT treeTable pg (w.withFollow "special-get-raises" false) 11 (some (.ref 6)) 1 71 (PK (w.withFollow "special-get-raises" false).params os) (piecesOf (sl 110 1) ev cE PL [topFrame fp])=some (.next,PM (w.withFollow "special-get-raises" false).params os,cE,PN):=by
 rw [ytZ,yuZ];kernel_rfl
theorem P9(os:OsState)(w:World):segRunT treeTable pg (w.withFollow "special-get-raises" true) 11 (some (.ref 6)) 1 71 (PK (w.withFollow "special-get-raises" true).params os) (piecesOf (sl 110 1) ev cE PL [topFrame fp])=some (.next,PM (w.withFollow "special-get-raises" true).params os,cE,PN):=by
 rw [ytZ,yuZ];kernel_rfl
theorem VM(w:World)(os:OsState):segRunT treeTable pg w 11 (some (.ref 6)) 1 71 (PK w.params os) (piecesOf (sl 110 1) ev cE PL [topFrame fp])=some (.next,PM w.params os,cE,PN):=
 byRow2 "special-get-raises" (P:=fun w=>segRunT treeTable pg w 11 (some (.ref 6)) 1 71 (PK w.params os) (piecesOf (sl 110 1) ev cE PL [topFrame fp])=some (.next,PM w.params os,cE,PN)) (P8 os) (P9 os) w
theorem VN(w:World)(os:OsState):segRunT treeTable pg w 11 (some (.ref 6)) 1 391 (PM w.params os) (piecesOf (sl 111 13) ev cE PN [topFrame fp])=some (.next,ZC w.params os,cE,ZD):=by
 rw [ytZ,yuZ];kernel_rfl
theorem VO(w:World)(os:OsState):segRunT treeTable pg w 11 (some (.ref 6)) 1 377 (ZC w.params os) (piecesOf (sl 124 12) ev cE ZD [topFrame fp])=some (.next,ZE w.params os,cE,ZF):=by
 rw [ytZ,yuZ];kernel_rfl
theorem VP(w:World)(os:OsState):segRunT treeTable pg w 11 (some (.ref 6)) 1 138 (ZE w.params os) (piecesOf (sl 136 5) ev cE ZF [topFrame fp])=some (.next,ZG w.params os,cE,ZH):=by
 rw [ytZ,yuZ];kernel_rfl
theorem VS(w:World)(os:OsState):segRunT treeTable pg w 11 (some (.ref 6)) 1 425 (ZG w.params os) (piecesOf (sl 141 1) ev cE ZH [topFrame fp])=some (.next,ZI w.params os,cE,ZJ):=by
 rw [ytZ,yuZ];kernel_rfl
theorem VT(w:World)(os:OsState):segRunT treeTable pg w 11 (some (.ref 6)) 1 388 (ZI w.params os) (piecesOf (sl 142 7) ev cE ZJ [topFrame fp])=some (.next,ZK w.params os,cE,ZL):=by
 rw [ytZ,yuZ];kernel_rfl
theorem VU(w:World)(os:OsState):segRunT treeTable pg w 11 (some (.ref 6)) 1 373 (ZK w.params os) (piecesOf (sl 149 12) ev cE ZL [topFrame fp])=some (.next,ZM w.params os,cE,ZN):=by
 rw [ytZ,yuZ];kernel_rfl
theorem VV(w:World)(os:OsState):segRunT treeTable pg w 11 (some (.ref 6)) 1 325 (ZM w.params os) (piecesOf (sl 161 2) ev cE ZN [topFrame fp])=some (.next,ZO w.params os,cE,ZP):=by
 rw [ytZ,yuZ];kernel_rfl
theorem VW(w:World)(os:OsState):segRunT treeTable pg w 11 (some (.ref 6)) 1 241 (ZO w.params os) (piecesOf (sl 163 2) ev cE ZP [topFrame fp])=some (.next,ZQ w.params os,cE,ZR):=by
 rw [ytZ,yuZ];kernel_rfl
theorem VX(w:World)(os:OsState):segRunT treeTable pg w 11 (some (.ref 6)) 1 399 (ZQ w.params os) (piecesOf (sl 165 2) ev cE ZR [topFrame fp])=some (.next,ZS w.params os,cE,ZT):=by
 rw [ytZ,yuZ];kernel_rfl
theorem VY(w:World)(os:OsState):segRunT treeTable pg w 11 (some (.ref 6)) 1 364 (ZS w.params os) (piecesOf (sl 167 13) ev cE ZT [topFrame fp])=some (.next,ZU w.params os,cE,ZV):=by
 rw [ytZ,yuZ];kernel_rfl
theorem VZ(w:World)(os:OsState):segRunT treeTable pg w 11 (some (.ref 6)) 1 365 (ZU w.params os) (piecesOf (sl 180 10) ev cE ZV [topFrame fp])=some (.next,PO w.params os,cE,Ut):=by
 rw [ytZ,yuZ];kernel_rfl
noncomputable abbrev Z4(w:World)(os:OsState):Shared:=⟨boot_heap w.params,#[],boot_drawn,boot_toks,os⟩
theorem GC(w:World)(os:OsState):topGo treeTable pg w 11 (some (.ref 6)) 12 (Z4 w os) (topStub pg)=some ((S0 w.params os).abs,⟨denote treeTable cE,cE,p0,[topFrame fp]⟩):=by
 kernel_rfl
theorem sg(w:World)(os:OsState):segRun treeTable pg w 11 (some (.ref 6)) 1 1 ((S0 w.params os).abs) (blockOf bE ev cE p0 [topFrame fp])=some (.next,(S0 w.params os).abs,cE,p0):=by
 kernel_rfl
theorem GD(w:World)(os:OsState):topRun treeTable pg w 11 (some (.ref 6)) 2 ((PO w.params os).abs) ⟨doneF .next,cE,Ut,[topFrame fp]⟩=some ((PO w.params os).abs):=by
 kernel_rfl
theorem Pa:bE=(sl 0 7++(sl 7 21++(sl 28 11++(sl 39 1++(sl 40 1++(sl 41 5++(sl 46 13++(sl 59 19++(sl 78 15++(sl 93 1++(sl 94 6++(sl 100 10++(sl 110 1++(sl 111 13++(sl 124 12++(sl 136 5++(sl 141 1++(sl 142 7++(sl 149 12++(sl 161 2++(sl 163 2++(sl 165 2++(sl 167 13++(sl 180 10++[])))))))))))))))))))))))):=by kernel_rfl
theorem GE(w:World)(os:OsState):topRun treeTable pg w 11 (some (.ref 6)) (12+(1+(305+(394+(100+(207+(207+(376+(398+(400+(374+(242+(386+(142+(71+(391+(377+(138+(425+(388+(373+(325+(241+(399+(364+(365+2)))))))))))))))))))))))))) (Z4 w os) (topStub pg)=some ((PO w.params os).abs):=by
 refine go_top (GC w os) (piece_block (sg w os) ?_);rw [Pa];exact piece_app (segRun_of (pc0 w os)) (piece_app (segRun_of (pc1 w os)) (piece_app (segRun_of (pc2 w os)) (piece_app (segRun_of (pc3 w os)) (piece_app (segRun_of (pc4 w os)) (piece_app (segRun_of (pc5 w os)) (piece_app (segRun_of (pc6 w os)) (piece_app (segRun_of (pc7 w os)) (piece_app (segRun_of (pc8 w os)) (piece_app (segRun_of (pc9 w os)) (piece_app (segRun_of (VK w os)) (piece_app (segRun_of (VL w os)) (piece_app (segRun_of (VM w os)) (piece_app (segRun_of (VN w os)) (piece_app (segRun_of (VO w os)) (piece_app (segRun_of (VP w os)) (piece_app (segRun_of (VS w os)) (piece_app (segRun_of (VT w os)) (piece_app (segRun_of (VU w os)) (piece_app (segRun_of (VV w os)) (piece_app (segRun_of (VW w os)) (piece_app (segRun_of (VX w os)) (piece_app (segRun_of (VY w os)) (piece_app (segRun_of (VZ w os)) (piece_nil (GD w os)))))))))))))))))))))))))
noncomputable def q1:Program:={pg with main:={pg.main with body:=[st 189]}}
def bW:List Str:=[sO "_wall",sO "LF_NOTYPE",sO "LF_BOUND",sO "LF_COUNT",sO "LF_KIND",sO "RuneError",sO "BadKind",sO "VOID",sO "BOOL",sO "CHAR",sO "I1",sO "U1",sO "I2",sO "U2",sO "I4",sO "U4",sO "I8",sO "U8",sO "NINT",sO "OBJECT",sO "STRING",sO "NULLK",sO "BAD",sO "PRIM_END",sO "R_PRIM",sO "R_CLASS",sO "R_VALUE",sO "R_ARRAY",sO "R_BYREF",sO "R_VAR",sO "R_MVAR",sO "R_BOXED",sO "R_ROREF",sO "R_FTN",sO "R_RAW",sO "DEEPEST_KIND",sO "HEAVIEST_KIND",sO "PRIM_TID",sO "TID_PRIM",sO "ARRAY_TID",sO "NULLABLE_TID",sO "KindTable",sO "inner_kinds",sO "row_level",sO "row_length",sO "check_kind_row",sO "check_named",sO "check_args",sO "may_stand",sO "class_kind",sO "value_kind",sO "prim_kind",sO "var_kind",sO "boxed_kind",sO "kind_sort",sO "elem_of",sO "tid_of",sO "args_of",sO "is_value",sO "is_ref",sO "is_var",sO "close",sO "close_in",sO "with_inner",sO "box_of",sO "pick_arg",sO "close_all",sO "S_CLASS",sO "S_STRUCT",sO "S_IFACE",sO "S_ENUM",sO "TF_ABSTRACT",sO "TF_INTERNAL",sO "VA_NONE",sO "VA_IN",sO "GB_CLASS",sO "GB_STRUCT",sO "GB_NEW",sO "MF_STATIC",sO "MF_VIRTUAL",sO "MF_NEWSLOT",sO "MF_CTOR",sO "MF_CCTOR",sO "MF_SPECIAL",sO "T_OBJECT",sO "T_VALUETYPE",sO "T_ENUM",sO "T_ARRAY",sO "T_NULLABLE",sO "TypeDef",sO "MethodDef",sO "Store",sO "plain_names",sO "type_of",sO "find_methods",sO "base_of",sO "base_of_prim",sO "ifaces_of",sO "is_ctor",sO "A_PRIVATE",sO "A_FAMANDASM",sO "A_ASSEMBLY",sO "A_FAMILY",sO "A_FAMORASM",sO "A_PUBLIC",sO "VALUE_ROOTS",sO "SIGNED_TWIN",sO "bound_kinds",sO "param_is_value",sO "param_has_new",sO "surely_class",sO "is_iface",sO "base_chain",sO "all_ifaces",sO "add_ifaces",sO "stands_for_ref",sO "reduced",sO "is_nullable",sO "type_seen",sO "named_type",sO "kind_seen",sO "derives",sO "through_tid",sO "homes_of",sO "family_seen",sO "seen_at",sO "member_seen",sO "mref_seen",sO "member_in_sight",sO "mid_seen",sO "is_explicit",sO "is_override",sO "has_slot",sO "methods_here",sO "StoreHost",sO "store_under",sO "store_variance",sO "store_has_new",sO "loose_base",sO "loose_ifaces",sO "MOST_QUESTIONS",sO "Book",sO "ref_assignable",sO "source_assignable",sO "assign_settled",sO "settle_book",sO "has_proof",sO "assign_within",sO "assign_look",sO "param_within",sO "var_within",sO "inner_within",sO "elems_within",sO "Diags",sO "Unit",sO "Yard",sO "yard_kept",sO "surely_value",sO "bound_met",sO "goes_to_bound",sO "fits_bound",sO "bounds_kept",sO "check_kind",sO "check_definition",sO "check_arguments",sO "check_margs",sO "store_met",sO "_law_types",sO "_law_ups",sO "_law_methods",sO "_law_sees",sO "_law_named",sO "_law_through",sO "_law_ask",sO "_law_meets",sO "_law_bound"]
def Hl(P:Params):Heap:=⟨List.toArray [o0 P,o1 P,cD P,Us P 186 (ss "law_xm0256_01" 1804),o4 P,o5 P,o6 P,o7 P,o8 P,o9 P,YZ P,EZ,PJ 324,Y0,Y1,EZ,FZ,Y2,EZ,Y3,UZ,U0,Y4,Y5,U1 P,EZ,Y6,U2,Y7,EZ,FZ,Y8,EZ,Y9,U3,U4,Ya,U5 P,az P,U6,Yb,Yc,Yd,Ye,U7 P,EZ,FZ,U8,Yf,EZ,U9 P,Ua,Yg,Yh,Ub,Uc,EZ,Yi,Ud P,EZ,Yj,Ue,Yk,EZ,FZ,Yl,EZ,Ym,Uf,Ug,EZ,FZ,Yn,EZ,Yo,Uh,Ui,EZ,FZ,Yp,EZ,Yq,Uj,Uk,Yr,Ul P,Um,Un,Uo,Ys,Yt,EZ,FZ,Yu,EZ,Yw,Up,Uq,EZ,FZ,Je,EZ,Jf,BH,BI,EZ,FZ,Jg,EZ,Jh,BJ,BK,EZ,FZ,Ji,EZ,Jj,BL,BM,EZ,FZ,Jk,EZ,Jl,BN,BO,EZ,FZ,Jm,EZ,Jn,BP,BQ,EZ,FZ,Jo,EZ,Jp,BR,BS,EZ,FZ,Jq,EZ,Jr,BU,BV,EZ,FZ,Js,EZ,Jt,BW,BX,EZ,FZ,Ju,EZ,Jv,BY,BZ,EZ,FZ,Jw,EZ,Jx,B0,B2,EZ,FZ,Jy,EZ,Jz,B4,B5,EZ,FZ,KA,EZ,KC,B6,B7,EZ,FZ,KD,EZ,KE,B8,B9,EZ,FZ,KF,EZ,KG,Ba,Bb,EZ,FZ,KH,EZ,KI,Bc,Bd,EZ,FZ,KJ,EZ,KL,Be,Bf,EZ,FZ,KM,EZ,KO,Bg,Bh,EZ,FZ,KP,EZ,KQ,Bi,Bj,EZ,FZ,KR,EZ,KS,Bk,Bl,EZ,FZ,KT,EZ,KU,Bm,Bn,EZ,FZ,KV,EZ,KW,Bo,Bp,EZ,FZ,KY,EZ,KZ,Bq,Br,EZ,FZ,K9,EZ,Ka,Bs,Bt,EZ,FZ,Kb,EZ,Kc,Bu,Bv,EZ,Kd,Bw P,EZ,Ke,Bx,Kg,EZ,FZ,Kh,EZ,Ki,By,Bz,Kj,CA P,CB,CC,CD,Kk,Kl,EZ,Km,CE P,EZ,Kn,CF,Ko,EZ,FZ,Kp,EZ,Kq,CG,CH,Kr,CI P,CJ,CK,CL,Ks,Kt,EZ,Ku,CM P,EZ,Kv,CN,Kw,EZ,FZ,Kx,EZ,Ky,CO,CP,Kz,CQ P,CR,CS,CT,LA,LB,EZ,FZ,LC,EZ,LD,CU,CV,EZ,FZ,LG,EZ,LH,CW,CX,EZ,FZ,LI,EZ,LJ,CY,o349,EZ,FZ,LK,EZ,LL,CZ,C0,EZ,FZ,LM,EZ,LN,C1,C2,EZ,FZ,LO,EZ,LP,C3,C4,EZ,FZ,LQ,EZ,LR,C5,C6,C7,C8,EZ,FZ,LU,EZ,LV,C9,Ca,EZ,FZ,LW,EZ,LX,Cb,Cc,EZ,FZ,LY,EZ,LZ,Cd,Ce,EZ,FZ,La,EZ,Lb,Cf,Cg,EZ,FZ,Lc,EZ,Ld,Ch,Ci,EZ,FZ,Le,EZ,Lf,Cj,Ck,EZ,FZ,Lg,EZ,Lh,Cm,Cn,EZ,FZ,Li,EZ,Lj,Co,Cp,EZ,FZ,Lk,EZ,Ll,Cq,Cr,EZ,FZ,Lm,EZ,Ln,Cs,Ct,EZ,FZ,Lo,EZ,Lp,Cu,Cv,EZ,FZ,Lq,EZ,Lr,Cw,Cy,EZ,FZ,Ls,EZ,Lu,Cz,DA,EZ,FZ,Lw,EZ,Lx,DB,DC,EZ,FZ,Ly,EZ,Lz,DD,DE,EZ,FZ,MA,EZ,MB,DF,DG,EZ,FZ,MC,EZ,MD,DH,DI,EZ,FZ,ME,EZ,MF,DJ,DK,EZ,FZ,MG,EZ,MH,DM,DN,EZ,FZ,MI,EZ,MJ,DO,DP,EZ,FZ,ML,EZ,MM,DR,DS,EZ,FZ,MN,EZ,MP,DU,DV,EZ,FZ,MQ,EZ,MT,DW,DX,EZ,FZ,MW,EZ,MX,DY,o547,EZ,FZ,MY,DZ,D4,EZ,FZ,MZ,EZ,M0,D5,D6,EZ,FZ,Ma,EZ,Mb,D7,o566,EZ,Mc,D8 P,EZ,Md,D9,Me,EZ,FZ,Mf,EZ,Mg,Da,Db,EZ,FZ,Mh,EZ,Mi,Dc,Dd,EZ,FZ,Mj,EZ,Mk,De,Df,EZ,FZ,Ml,EZ,Mm,Dg,Dh,EZ,FZ,Mn,EZ,Mo,Di,Dj,EZ,FZ,Mp,EZ,Mq,Dk,Dl,EZ,FZ,Mr,EZ,Ms,Dm,Dn,Mu,Do P,Dp,Dq,Dr,Mv,Mw,EZ,FZ,Mx,EZ,My,Ds,Dt,EZ,FZ,Mz,EZ,NA,Du,Dv,EZ,FZ,NB,EZ,NC,Dw,Dx,EZ,FZ,ND,EZ,NE,Dy,Dz,EZ,FZ,NF,EA,EB,EZ,NG,EC P,EZ,NH,ED,NI,EZ,FZ,NJ,EZ,NK,EE,EF,NL,EG P,EH,EJ,EK,NM,NO,EZ,FZ,NP,EZ,NQ,EL,EM,EZ,FZ,NR,EZ,NS,EN,EO,EZ,FZ,NT,EZ,NU,EP,EQ,EZ,FZ,NV,EZ,NW,ER,ES,EZ,FZ,NX,EZ,NY,ET,EU,EZ,FZ,NZ,EZ,Na,EV,EW,EZ,FZ,Nb,EZ,Nc,EX,EY,EZ,FZ,Nd,EZ,Nf,E1,E2,EZ,FZ,Ng,EZ,Nh,E3,E4,EZ,FZ,Ni,EZ,Nj,E5,E6,EZ,FZ,Nk,EZ,Nl,E7,E8,EZ,Nm,E9 P,EZ,Nn,Ea,No,EZ,FZ,Np,EZ,Nq,Eb,Ec,EZ,FZ,Nr,EZ,Nt,Ed,Ee,EZ,FZ,Nu,EZ,Nv,Ef,Eg,EZ,FZ,Nw,Eh,Ei,Nx,Ej P,Ek,El,Em,Ny,Nz,EZ,OB,En P,EZ,OC,Eo,OD,EZ,FZ,OE,EZ,OF,Ep,Er,OG,Es P,Et,Eu,Ev,OH,OJ,EZ,OK,Ew P,EZ,OM,Ex,ON,EZ,FZ,OO,EZ,OP,Ey,Ez,EZ,FZ,OQ,EZ,OS,FA,FB,EZ,FZ,OT,EZ,OU,FC,FD,EZ,FZ,OV,EZ,OW,FE,FF,EZ,FZ,OX,EZ,OY,FH,FJ,OZ,FK P,FL,FM,FN,O3,O4,EZ,FZ,O5,EZ,O6,FO,FP,EZ,FZ,O7,EZ,O8,FQ,FR,EZ,FZ,O9,EZ,Oa,FS,FT,EZ,FZ,Ob,EZ,Oc,FU,FV,EZ,FZ,Od,EZ,Oe,FW,FX,EZ,FZ,Of,EZ,Og,FY,F0,EZ,FZ,Oh,EZ,Oi,F1,F3,EZ,FZ,Oj,EZ,Ok,F4,F5,EZ,FZ,Ol,EZ,Om,F6,F7,EZ,FZ,On,EZ,Oo,F8,F9,EZ,FZ,Op,EZ,Oq,Fa,Fb,EZ,FZ,Os,EZ,Ot,Fc,Fd,EZ,FZ,Ou,EZ,Ov,Fe,lg,EZ,FZ,Ow,EZ,Ox,Ff,Fg,EZ,FZ,Oy,EZ,Oz,Fh,Fi,EZ,FZ,PA,EZ,PB,Fj,nZ,EZ,FZ,PC,EZ,PD,Fk,Fl,EZ,FZ,PE,EZ,PF,Fn,sJ,EZ,FZ,PG,EZ,AH,sK,lh,EZ,FZ,AI,sL,li,EZ,FZ,AJ,sM,sN],{}⟩
theorem GF(P:Params)(os:OsState):(PO P os).abs=⟨Hl P,#[],{},1954,os⟩:=by kernel_rfl
theorem lk0(w:World):((boot_heap w.params).isNs mainGlobals && (#[]:Array GenState).size==0,(boot_heap w.params).objs.size,(boot_heap w.params).nsMap mainGlobals "__annotations__")=(true,11,some (.ref 6)):=by kernel_rfl
theorem lk1(w:World)(os:OsState):(staticsOk (importedModules pg.main.body) (boot_heap w.params) (Hl w.params) && namesBound pg (Hl w.params) && gensDone ⟨Hl w.params,#[],{},1954,os⟩ && laidKept (boot_heap w.params) (Hl w.params))=true:=by kernel_rfl
theorem lkA(w:World)(os:OsState):seen ((recsOf q1).map (·.name)) (ownsOf q1) [] ⟨Hl w.params,#[],{},1954,os⟩=expectedOf q1:=by kernel_rfl
theorem lkB(w:World):(Hl w.params).bltView=bltViewBooted:=by kernel_rfl
theorem V0(w:World):(Hl w.params).keysOk (looseW q1 bW) ((recsOf q1).map (·.name)) ((litsOf q1).map (·.1)) ((clssOf q1 (looseW q1 bW)).map (·.name))=true:=by kernel_rfl
theorem V1(w:World):((Hl w.params).accountedOkI (importedModules pg.main.body) && (Hl w.params).isNs mainGlobals && (Hl w.params).isNs builtinsNs && tablesOk q1 (Hl w.params))=true:=by kernel_rfl
theorem lkD(w:World)(os:OsState):tabsOk q1 ⟨Hl w.params,#[],{},1954,os⟩=true:=by kernel_rfl
theorem lkE(w:World)(os:OsState):pinSeenD q1 (drecsOf q1) ⟨Hl w.params,#[],{},1954,os⟩=pinGoodD (drecsOf q1):=by kernel_rfl
theorem lkF(w:World)(os:OsState):plainSeenE q1 (looseW q1 bW) ⟨Hl w.params,#[],{},1954,os⟩=plainGoodE q1 (looseW q1 bW):=by kernel_rfl
theorem lkG(w:World)(os:OsState):plainSeenD q1 bW ⟨Hl w.params,#[],{},1954,os⟩=plainGoodD q1 bW:=by kernel_rfl
theorem lkH(w:World)(os:OsState):wideSeen q1 ⟨Hl w.params,#[],{},1954,os⟩=wideGood q1:=by kernel_rfl
theorem lkI(w:World)(os:OsState):clsSeenW q1 bW ⟨Hl w.params,#[],{},1954,os⟩=clsGoodW q1 bW:=by kernel_rfl
noncomputable def asK:List Addr:=[1,3,20,21,24,27,34,35,37,38,39,44,47,50,51,54,55,58,61,68,69,75,76,82,83,85,86,87,88,96,97,103,104,110,111,117,118,124,125,131,132,138,139,145,146,152,153,159,160,166,167,173,174,180,181,187,188,194,195,201,202,208,209,215,216,222,223,229,230,236,237,243,244,250,251,257,258,264,265,268,271,278,279,281,282,283,284,289,292,299,300,302,303,304,305,310,313,320,321,323,324,325,326,334,335,341,342,348,349,355,356,362,363,369,370,376,377,378,379,385,386,392,393,399,400,406,407,413,414,420,421,427,428,434,435,441,442,448,449,455,456,462,463,469,470,476,477,483,484,490,491,497,498,504,505,511,512,518,519,525,526,532,533,539,540,546,547,551,552,558,559,565,566,569,572,579,580,586,587,593,594,600,601,607,608,614,615,621,622,624,625,626,627,635,636,642,643,649,650,656,657,661,662,665,668,675,676,678,679,680,681,689,690,696,697,703,704,710,711,717,718,724,725,731,732,738,739,745,746,752,753,759,760,763,766,773,774,780,781,787,788,792,793,795,796,797,798,803,806,813,814,816,817,818,819,824,827,834,835,841,842,848,849,855,856,862,863,865,866,867,868,876,877,883,884,890,891,897,898,904,905,911,912,918,919,925,926,932,933,939,940,946,947,953,954,960,961,967,968,974,975,981,982,988,989,995,996,1002,1003,1007,1008,1012,1013]
def Kf(P:Params):Frag:=[(1,o1 P),(3,Us P 186 (ss "law_xm0256_01" 1804)),(20,UZ),(21,U0),(24,U1 P),(27,U2),(34,U3),(35,U4),(37,U5 P),(38,az P),(39,U6),(44,U7 P),(47,U8),(50,U9 P),(51,Ua),(54,Ub),(55,Uc),(58,Ud P),(61,Ue),(68,Uf),(69,Ug),(75,Uh),(76,Ui),(82,Uj),(83,Uk),(85,Ul P),(86,Um),(87,Un),(88,Uo),(96,Up),(97,Uq),(103,BH),(104,BI),(110,BJ),(111,BK),(117,BL),(118,BM),(124,BN),(125,BO),(131,BP),(132,BQ),(138,BR),(139,BS),(145,BU),(146,BV),(152,BW),(153,BX),(159,BY),(160,BZ),(166,B0),(167,B2),(173,B4),(174,B5),(180,B6),(181,B7),(187,B8),(188,B9),(194,Ba),(195,Bb),(201,Bc),(202,Bd),(208,Be),(209,Bf),(215,Bg),(216,Bh),(222,Bi),(223,Bj),(229,Bk),(230,Bl),(236,Bm),(237,Bn),(243,Bo),(244,Bp),(250,Bq),(251,Br),(257,Bs),(258,Bt),(264,Bu),(265,Bv),(268,Bw P),(271,Bx),(278,By),(279,Bz),(281,CA P),(282,CB),(283,CC),(284,CD),(289,CE P),(292,CF),(299,CG),(300,CH),(302,CI P),(303,CJ),(304,CK),(305,CL),(310,CM P),(313,CN),(320,CO),(321,CP),(323,CQ P),(324,CR),(325,CS),(326,CT),(334,CU),(335,CV),(341,CW),(342,CX),(348,CY),(349,o349),(355,CZ),(356,C0),(362,C1),(363,C2),(369,C3),(370,C4),(376,C5),(377,C6),(378,C7),(379,C8),(385,C9),(386,Ca),(392,Cb),(393,Cc),(399,Cd),(400,Ce),(406,Cf),(407,Cg),(413,Ch),(414,Ci),(420,Cj),(421,Ck),(427,Cm),(428,Cn),(434,Co),(435,Cp),(441,Cq),(442,Cr),(448,Cs),(449,Ct),(455,Cu),(456,Cv),(462,Cw),(463,Cy),(469,Cz),(470,DA),(476,DB),(477,DC),(483,DD),(484,DE),(490,DF),(491,DG),(497,DH),(498,DI),(504,DJ),(505,DK),(511,DM),(512,DN),(518,DO),(519,DP),(525,DR),(526,DS),(532,DU),(533,DV),(539,DW),(540,DX),(546,DY),(547,o547),(551,DZ),(552,D4),(558,D5),(559,D6),(565,D7),(566,o566),(569,D8 P),(572,D9),(579,Da),(580,Db),(586,Dc),(587,Dd),(593,De),(594,Df),(600,Dg),(601,Dh),(607,Di),(608,Dj),(614,Dk),(615,Dl),(621,Dm),(622,Dn),(624,Do P),(625,Dp),(626,Dq),(627,Dr),(635,Ds),(636,Dt),(642,Du),(643,Dv),(649,Dw),(650,Dx),(656,Dy),(657,Dz),(661,EA),(662,EB),(665,EC P),(668,ED),(675,EE),(676,EF),(678,EG P),(679,EH),(680,EJ),(681,EK),(689,EL),(690,EM),(696,EN),(697,EO),(703,EP),(704,EQ),(710,ER),(711,ES),(717,ET),(718,EU),(724,EV),(725,EW),(731,EX),(732,EY),(738,E1),(739,E2),(745,E3),(746,E4),(752,E5),(753,E6),(759,E7),(760,E8),(763,E9 P),(766,Ea),(773,Eb),(774,Ec),(780,Ed),(781,Ee),(787,Ef),(788,Eg),(792,Eh),(793,Ei),(795,Ej P),(796,Ek),(797,El),(798,Em),(803,En P),(806,Eo),(813,Ep),(814,Er),(816,Es P),(817,Et),(818,Eu),(819,Ev),(824,Ew P),(827,Ex),(834,Ey),(835,Ez),(841,FA),(842,FB),(848,FC),(849,FD),(855,FE),(856,FF),(862,FH),(863,FJ),(865,FK P),(866,FL),(867,FM),(868,FN),(876,FO),(877,FP),(883,FQ),(884,FR),(890,FS),(891,FT),(897,FU),(898,FV),(904,FW),(905,FX),(911,FY),(912,F0),(918,F1),(919,F3),(925,F4),(926,F5),(932,F6),(933,F7),(939,F8),(940,F9),(946,Fa),(947,Fb),(953,Fc),(954,Fd),(960,Fe),(961,lg),(967,Ff),(968,Fg),(974,Fh),(975,Fi),(981,Fj),(982,nZ),(988,Fk),(989,Fl),(995,Fn),(996,sJ),(1002,sK),(1003,lh),(1007,sL),(1008,li),(1012,sM),(1013,sN)]
theorem jz:∀P:Params,asK=(Kf P).map (·.1):=fun P=>by kernel_rfl
theorem lkY(w:World):asK.map (Hl w.params).get? =(Kf w.params).map fun p=>some p.2:=by kernel_rfl
theorem V2:opening pg=plainProg pg.main.scope.names:=by kernel_rfl
theorem V3:∀s,fenceModules? pg s=some s:=fun s=>by kernel_rfl
theorem V4(w:World)(os:OsState):topRun treeTable pg w 11 (some (.ref 6)) (12+(1+(305+(394+(100+(207+(207+(376+(398+(400+(374+(242+(386+(142+(71+(391+(377+(138+(425+(388+(373+(325+(241+(399+(364+(365+2)))))))))))))))))))))))))) ⟨boot_heap w.params,#[],boot_drawn,boot_toks,os⟩ (topStub pg)=some ⟨Hl w.params,#[],{},1954,os⟩:=
 (GE w os).trans (congrArg some (GF w.params os))
theorem pe9{A B C D E F G H I:Type}{a a':A}{b b':B}{c c':C}{d d':D}{e e':E}{f f':F}{g g':G}{h h':H}{i i':I}(h1:a=a')(h2:b=b')(h3:c=c')(h4:d=d')(h5:e=e')(h6:f=f')(h7:g=g')(h8:h=h')(h9:i=i'):(a,b,c,d,e,f,g,h,i)=(a',b',c',d',e',f',g',h',i'):=by
 rw [h1,h2,h3,h4,h5,h6,h7,h8,h9]
theorem Pb(w:World)(os:OsState):openSeen q1 bW (importedModules pg.main.body) (fun _=>true) true ⟨Hl w.params,#[],{},1954,os⟩=openGood q1 bW:=by
 have a:=V0 w;have b:=V1 w;simp only [Bool.and_eq_true]at b;obtain⟨⟨⟨b1,b2⟩,b3⟩,b4⟩:=b;unfold openSeen openGood;refine pe9 (lkA w os) (lkB w) ?_ (lkD w os) (lkE w os) (lkF w os) (lkG w os) (lkH w os) (lkI w os)
 dsimp only
 rw [a,b1,b2,b3,b4];rfl
theorem Pc:LeftO pg q1 bW (fun _=>true) (kHook Kf asK jz).obs (kHook Kf asK jz).val 20000:=
 LeftO.of_pieces (H₀:=boot_heap) (H₁:=Hl) (gs₀:=#[]) (gs₁:=#[]) (d₀:=boot_drawn) (d₁:={}) (k₀:=boot_toks) (k₁:=1954) (m₀:=11) (ann:=some (.ref 6)) (M:=12+(1+(305+(394+(100+(207+(207+(376+(398+(400+(374+(242+(386+(142+(71+(391+(377+(138+(425+(388+(373+(325+(241+(399+(364+(365+2))))))))))))))))))))))))))
  (boot_open V2 (by decide+kernel) V3) lk0 V4 (by decide+kernel) (fun w=>funext fun os=>by
   rw [Pb w os,lk1 w os]
   exact congrArg (fun x=>(true,openGood q1 bW,x)) (lkY w))
def iU(a:Arguments)(sc:Scope):Bool:=decide (a.args.map (·.arg)).Nodup && a.posonlyargs.isEmpty && a.vararg.isNone && a.kwonlyargs.isEmpty && a.kwarg.isNone && a.defaults.isEmpty && (sc.names.lookup ("__debug__":Str)).isNone && (sc.names.lookup ("__classdict__":Str)).isNone && decide ((cellsFrom 0 sc.names []).map (·.1)).Nodup && sc.kind==.function && !sc.isGenerator && !sc.isCoroutine &&
 a.args.all (fun x=>sT (sc.names.lookup x.arg) || nh (sc.names.lookup x.arg))
noncomputable def lz :Value→Option Int
 | .int j _=>some j
 |_=>none
noncomputable def mD :Value→Option Addr
 | .ref b=>some b
 |_=>none
def GG{α:Type}(K:Frag)(x:Str)(f:Value→Option α):Option α:=ob (nsIn K mainGlobals x) fun o=>ob o f
def GH(K:Frag)(x:Str)(v:MV):Bool:=match v with
 | .int i=>decide (GG K x lz =some i)
 | .top a=>decide (GG K x mD =some a)
 |_=>false
def Pd(K:Frag)(x:Str)(f:FI):Bool:=decide (GG K x mD =some f.ad) && keepIn K (.ref f.ad)
def Pe(K:Frag)(x:Str)(c:Nat):Bool:=decide (GG K x mD =some c) && keepIn K (.ref c)
noncomputable def sh(K:Frag)(c:Nat)(x:Str):Bool:=plainGet K c x && hasDictIn K c && decide (findIn K (.ref c) x=some none) && decide (takerIn K c x=some none)
noncomputable def si(K:Frag)(c:Nat):Bool:=makesIn K c && decide (findIn K (.ref c) "__setattr__"=some (some (.builtin "object.__setattr__"))) && plainOver K c && hasDictIn K c
noncomputable def wZ(K:Frag)(c:Nat)(x:Str)(f:FI):Bool:=plainGet K c x && decide (findIn K (.ref c) x=some (some (.ref f.ad))) && isFn K (.ref f.ad) && keepIn K (.ref f.ad)
theorem kf1(P:Params):((Kf P).lookup 1).isSome=true:=by kernel_rfl
theorem pN(P:Params):(gtab.all fun p=>GH (Kf P) p.1 p.2)=true:=by kernel_rfl
theorem sj(P:Params):(ftab.all fun p=>Pd (Kf P) p.1 p.2)=true:=by kernel_rfl
theorem w3(P:Params):(ctab.all fun p=>Pe (Kf P) p.1 p.2)=true:=by kernel_rfl
theorem w4(P:Params):(flds.all fun q=>si (Kf P) q.1 && q.2.all fun x=>sh (Kf P) q.1 x.1)=true:=by kernel_rfl
theorem sk(P:Params):(mtab.all fun q=>q.2.all fun x=>wZ (Kf P) q.1 x.1 x.2)=true:=by kernel_rfl
def dT(P:Params)(f:FI):Prop:=∃(name qual:Str) (doc pm cdv:Value),(Kf P).lookup f.ad=some ⟨.type "function",none,.func (fnOf name qual (fA f.sm) (fB f.sm) (fS f.sm) .none .none doc pm none cdv .none),#[]⟩∧
 codeIn (Kf P) cdv qual=true∧iU (fA f.sm) (fS f.sm)=true
def AllF(P:Params):List (Str×FI)→Prop
 |[]=>True
 |p::r=>dT P p.2∧AllF P r
def AllM(P:Params):List (Nat×List (Str×FI))→Prop
 |[]=>True
 |p::r=>AllF P p.2∧AllM P r
theorem AllF.get{P:Params}{x:Str}{f:FI}:∀{l:List (Str×FI)},AllF P l→l.lookup x=some f→dT P f
 |[],_,e=>by cases e
 |(y,g)::r,h,e=>by
  rw [ylZ]at e
  cases q:x==y with
  |true=>rw [q]at e;cases e;exact h.1
  |false=>rw [q]at e;exact AllF.get h.2 e
theorem AllM.get{P:Params}{c:Nat}{ms:List (Str×FI)}:∀{l:List (Nat×List (Str×FI))},AllM P l→dS c l=some ms→AllF P ms
 |[],_,e=>by cases e
 |p::r,h,e=>by
  unfold dS at e;split at e
  ·cases e;exact h.1
  ·exact AllM.get h.2 e
def sn(a:Nat):Value:=match Nat.blt a 35 with|true=>ss "__main__" 164|false=>match Nat.blt a 69 with|true=>ss "framerune.faults" 194|false=>match Nat.blt a 279 with|true=>ss "framerune.kinds" 251|false=>match Nat.blt a 386 with|true=>ss "framerune.store" 656|false=>match Nat.blt a 463 with|true=>ss "framerune.kindline" 916|false=>match Nat.blt a 533 with|true=>ss "framerune.access" 1030|false=>match Nat.blt a 580 with|true=>ss "framerune.csmember" 1148|false=>match Nat.blt a 774 with|true=>ss "framerune.kindrel" 1212|false=>match Nat.blt a 814 with|true=>ss "framerune.csnodes" 1501|false=>match Nat.blt a 835 with|true=>ss "framerune.csbound" 1555|false=>match Nat.blt a 884 with|true=>ss "framerune.cscore" 1595|false=>match Nat.blt a 947 with|true=>ss "framerune.bounds" 1684|false=>match Nat.blt a 954 with|true=>ss "framerune.vhost" 1794|false=>ss "law_xm0256_01" 1804
theorem hG{P:Params}{x:Str}{f:FI}{r:List (Str×FI)}(q:Str)(hr:AllF P r)(h1:(Kf P).lookup f.ad=some ⟨.type "function",none,.func (fnOf x q (fA f.sm) (fB f.sm) (fS f.sm) .none .none .none (sn f.ad) none (rr (Nat.sub f.ad 1)) .none),#[]⟩:=by kernel_rfl)(h2:codeIn (Kf P) (rr (Nat.sub f.ad 1)) q=true:=by kernel_rfl)(h3:iU (fA f.sm) (fS f.sm)=true:=by kernel_rfl):AllF P ((x,f)::r):=⟨⟨x,q,.none,_,_,h1,h2,h3⟩,hr⟩
theorem AllF.of{P:Params}{l:List (Str×FI)}:(∀p ∈ l,dT P p.2)→AllF P l:=by
 induction l with
 |nil=>exact fun _=>trivial
 |cons p r ih=>exact fun h=>⟨h p (.head _),ih fun q hq=>h q (.tail _ hq)⟩
theorem ag(P:Params):AllF P ftab:=AllF.of fun p hp=>
 have h:=List.map_inj_left.mp (show ftab.map (fun p=>((Kf P).lookup p.2.ad,codeIn (Kf P) (rr (Nat.sub p.2.ad 1)) p.1,iU (fA p.2.sm) (fS p.2.sm)))=ftab.map (fun p=>(some ⟨.type "function",none,.func (fnOf p.1 p.1 (fA p.2.sm) (fB p.2.sm) (fS p.2.sm) .none .none .none (sn p.2.ad) none (rr (Nat.sub p.2.ad 1)) .none),#[]⟩,true,true)) by kernel_rfl) p hp
 ⟨p.1,p.1,.none,sn p.2.ad,rr (Nat.sub p.2.ad 1),congrArg (·.1) h,congrArg (·.2.1) h,congrArg (·.2.2) h⟩
theorem hJ(P:Params):AllM P mtab:=by
 unfold mtab;refine⟨?_,?_⟩
 ·refine hG (sO "KindTable.__init__") ?_;refine hG (sO "KindTable.row") ?_;refine hG (sO "KindTable.put") ?_;exact trivial
 refine⟨?_,?_⟩
 ·refine hG (sO "TypeDef.__init__") ?_;exact trivial
 refine⟨?_,?_⟩
 ·refine hG (sO "MethodDef.__init__") ?_;exact trivial
 refine⟨?_,?_⟩
 ·refine hG (sO "Store.__init__") ?_;exact trivial
 refine⟨?_,?_⟩
 ·refine hG (sO "StoreHost.__init__") ?_;refine hG (sO "StoreHost.base") ?_;refine hG (sO "StoreHost.ifaces_at") ?_;refine hG (sO "StoreHost.sort") ?_;refine hG (sO "StoreHost.variance") ?_;refine hG (sO "StoreHost.under") ?_;refine hG (sO "StoreHost.has_new") ?_;exact trivial
 refine⟨?_,?_⟩
 ·refine hG (sO "Book.__init__") ?_;exact trivial
 refine⟨?_,?_⟩
 ·refine hG (sO "Diags.__init__") ?_;refine hG (sO "Diags.put") ?_;refine hG (sO "Diags.cut") ?_;refine hG (sO "Diags.numbers") ?_;exact trivial
 refine⟨?_,?_⟩
 ·refine hG (sO "Unit.__init__") ?_;exact trivial
 refine⟨?_,?_⟩
 ·refine hG (sO "Yard.__init__") ?_;refine hG (sO "Yard.kind") ?_;refine hG (sO "Yard.fault") ?_
  refine hG (sO "Yard.show") ?_
  refine hG (sO "Yard.kept") ?_;exact trivial
 exact trivial
theorem AP(P:Params):dT P ⟨230,st 63⟩:=(ag P).get (x:=sO "close") (by kernel_rfl)
theorem Pf(P:Params):dT P ⟨414,st 115⟩:=(ag P).get (x:=sO "is_iface") (by kernel_rfl)
theorem Pg(P:Params):dT P ⟨421,st 116⟩:=(ag P).get (x:=sO "base_chain") (by kernel_rfl)
theorem Ph(P:Params):dT P ⟨463,st 123⟩:=(ag P).get (x:=sO "type_seen") (by kernel_rfl)
theorem AQ(P:Params):dT P ⟨477,st 125⟩:=(ag P).get (x:=sO "kind_seen") (by kernel_rfl)
theorem Pi(P:Params):dT P ⟨484,st 126⟩:=(ag P).get (x:=sO "derives") (by kernel_rfl)
theorem AR(P:Params):dT P ⟨491,st 127⟩:=(ag P).get (x:=sO "through_tid") (by kernel_rfl)
theorem Pj(P:Params):dT P ⟨498,st 128⟩:=(ag P).get (x:=sO "homes_of") (by kernel_rfl)
theorem AS(P:Params):dT P ⟨505,st 129⟩:=(ag P).get (x:=sO "family_seen") (by kernel_rfl)
theorem AT(P:Params):dT P ⟨512,st 130⟩:=(ag P).get (x:=sO "seen_at") (by kernel_rfl)
theorem AU(P:Params):dT P ⟨519,st 131⟩:=(ag P).get (x:=sO "member_seen") (by kernel_rfl)
theorem Pk(P:Params):dT P ⟨746,st 157⟩:=(ag P).get (x:=sO "var_within") (by kernel_rfl)
theorem Pm(P:Params):dT P ⟨905,st 171⟩:=(ag P).get (x:=sO "fits_bound") (by kernel_rfl)
theorem Pn(P:Params):dT P ⟨912,st 172⟩:=(ag P).get (x:=sO "bounds_kept") (by kernel_rfl)
theorem Po(P:Params):dT P ⟨919,st 173⟩:=(ag P).get (x:=sO "check_kind") (by kernel_rfl)
theorem Pp(P:Params):dT P ⟨996,st 186⟩:=(ag P).get (x:=sO "_law_ask") (by kernel_rfl)
theorem GI(P:Params):dT P ⟨1008,st 188⟩:=(ag P).get (x:=sO "_law_bound") (by kernel_rfl)
theorem V5(P:Params):dT P ⟨76,sm 43 1⟩:=(hJ P).1.2.1
theorem GJ(P:Params):dT P ⟨83,sm 43 2⟩:=(hJ P).1.2.2.1
theorem Pq(P:Params):dT P ⟨622,sm 141 6⟩:=(hJ P).2.2.2.2.1.2.2.2.2.2.2.1
noncomputable abbrev RK:=Int ⊕ List Int
noncomputable def gc:RK→Int
 | .inl i=>hashInt i
 | .inr ks=>reduceHash (Builtin.Tuple.tupleHashOf (ks.map hashInt))
noncomputable def eP(ks:List RK):Int:=reduceHash (Builtin.Tuple.tupleHashOf (ks.map gc))
noncomputable def np:RK→Nat
 | .inl _=>1
 | .inr ks=>ks.length+1
noncomputable def bf:List RK→Nat
 |[]=>0
 |k::r=>np k+bf r
theorem fW:∀a b:List RK,bf (a++b)=bf a+bf b
 |[],b=>by simp [bf]
 |k::a,b=>by simp only [List.cons_append,bf,fW a b];lia
section
variable{w:World}
def EIs(prog:Program)(w:World)(h:Heap):RK→Value→Prop
 | .inl i,v=>Value.isInt i v=true
 | .inr ks,v=>∃b,v=.ref b∧IsTupleKey (intKind prog w) h ks b
inductive EsAre(prog:Program)(w:World)(h:Heap):List RK→List Value→Prop
 |nil:EsAre prog w h [] []
 |cons {k:RK} {v:Value} {ks:List RK} {vs:List Value}:EIs prog w h k v→EsAre prog w h ks vs→EsAre prog w h (k::ks) (v::vs)
noncomputable def IsRow(prog:Program)(w:World)(h:Heap)(ks:List RK)(a:Addr):Prop:=∃o items n,h.get? a=some o∧o.cls=.type "tuple"∧o.data=.seq items n∧EsAre prog w h ks items.toList
theorem EIs.inj{h:Heap}{x y:RK}{v:Value}(hx:EIs prog w h x v)(hy:EIs prog w h y v):x=y:=by
 cases x with
 |inl i=>
  cases y with
  |inl j=>rw [Value.isInt_inj _ _ _ hx hy]
  |inr ks=>obtain⟨b,rfl,_⟩:=hy;cases hx
 |inr ks=>
  obtain⟨b,rfl,h1⟩:=hx
  cases y with
  |inl j=>cases hy
  |inr ks'=>obtain⟨b',e,h2⟩:=hy;cases e;rw [h1.inj h2]
theorem EsAre.inj{h:Heap}{x y:List RK}{vs:List Value}(hx:EsAre prog w h x vs)(hy:EsAre prog w h y vs):x=y:=by
 induction hx generalizing y with
 |nil=>cases hy;rfl
 |cons h1 _ ih=>cases hy with|cons h2 t2=>rw [h1.inj h2,ih t2]
theorem IsRow.typeIs{s:Shared}{ks:List RK}{a:Addr}(x:IsRow prog w s.heap ks a):s.TypeIs (.ref a) "tuple":=let ⟨o,_,_,ho,hc,_⟩:=x;⟨o,ho,hc⟩
theorem IsRow.inj{h:Heap}{a:Addr}{x y:List RK}(hx:IsRow prog w h x a)(hy:IsRow prog w h y a):x=y:=by
 obtain⟨o,items,n,ho,_,hd,hi⟩:=hx;obtain⟨o',items',n',ho',_,hd',hi'⟩:=hy;obtain rfl:o=o':=oiZ (ho.symm.trans ho');rw [hd]at hd';injection hd' with h1 _;subst h1;exact hi.inj hi'
theorem EIs.keeps{h h':Heap}{k:RK}{v:Value}{d:Addr}{o:Obj}{es ep}(x:EIs prog w h k v)(ho:h.get? d=some o)(hd:o.data=.dict es ep)(hs:Heap.SameBut d h h'):EIs prog w h' k v:=by
 cases k with
 |inl i=>exact x
 |inr ks=>obtain⟨b,e,h1⟩:=x;exact⟨b,e,h1.keeps ho hd hs⟩
theorem EsAre.keeps{h h':Heap}{ks:List RK}{vs:List Value}{d:Addr}{o:Obj}{es ep}(x:EsAre prog w h ks vs)(ho:h.get? d=some o)(hd:o.data=.dict es ep)(hs:Heap.SameBut d h h'):EsAre prog w h' ks vs:=by
 induction x with
 |nil=>exact .nil
 |cons h1 _ ih=>exact .cons (h1.keeps ho hd hs) ih
theorem IsRow.keeps{h h':Heap}{ks:List RK}{a d:Addr}{o:Obj}{es ep}(x:IsRow prog w h ks a)(ho:h.get? d=some o)(hd:o.data=.dict es ep)(hs:Heap.SameBut d h h'):
  IsRow prog w h' ks a:=by
 obtain⟨o',items,n,ho',hc,hd',hi⟩:=x
 have hne:a≠d:=by
  rintro rfl
  obtain rfl:o'=o:=oiZ (ho'.symm.trans ho);rw [hd]at hd';exact nomatch hd'
 exact⟨o',items,n,(hs.2 a hne).trans ho',hc,hd',hi.keeps ho hd hs⟩
variable{A:Around}{E:Value→Shared→Prop}{s:Shared}
theorem IsTupleKey.tup{h:Heap}{ks:List Int}{b:Addr}(x:IsTupleKey (intKind prog w) h ks b):∃items,h.IsTuple b items:=by
 obtain⟨o,items,n,ho,hc,hd,_⟩:=x;exact⟨items,o,ho,hc,n,hd⟩
theorem sr{k:RK}{v:Value}{Q:Int→Shared→Prop}(hu:A.units < cLine)(hk:EIs prog w s.heap k v)(h:Q (gc k) {s with toks:=s.toks+np k}):wpAny (model prog w) A (pyHash v) Q E s:=by
 cases k with
 |inl i=>exact (intKind prog w).pyHash (k:=i) hk h
 |inr ks=>
  obtain⟨b,rfl,h1⟩:=hk;exact wpAny_pyHash_tuple hu h1 h
theorem su{x y:RK}{u v:Value}{Q:Bool→Shared→Prop}(hu:A.units < cLine)(hx:EIs prog w s.heap x u)(hy:EIs prog w s.heap y v)(h:Q (decide (x=y)) s):wpAny (model prog w) A (eqBool u v) Q E s:=by
 cases x with
 |inl i=>
  cases y with
  |inl j=>
   refine (intKind prog w).eqBool (a:=i) (b:=j) hx hy ?_
   have e:decide (i=j)=decide ((Sum.inl i:RK)=.inl j):=by simp
   rw [e];exact h
  |inr ks=>
   obtain⟨b,rfl,h1⟩:=hy;obtain⟨t,rfl⟩:=Value.isInt_shape hx;obtain⟨items,h2⟩:=IsTupleKey.tup h1
   exact EqAt.int_tuple i t h2 hu prog w E Q (by simpa using h)
 |inr ks=>
  obtain⟨a,rfl,h0⟩:=hx
  cases y with
  |inl j=>
   obtain⟨t,rfl⟩:=Value.isInt_shape hy;obtain⟨items,h2⟩:=IsTupleKey.tup h0
   exact EqAt.tuple_int j t h2 hu prog w E Q (by simpa using h)
  |inr ks'=>
   obtain⟨b,rfl,h1⟩:=hy;refine wpAny_eqBool_tuple hu h0 h1 ?_
   have e:decide (ks=ks')=decide ((Sum.inr ks:RK)=.inr ks'):=by simp
   rw [e];exact h
inductive HsI(prog:Program)(w:World)(s:Shared)(ks:List RK)(rest:List Value)(b:Array Int)(s':Shared):Prop
 |mk (done left:List RK) (e:ks=done++left) (hl:EsAre prog w s.heap left rest) (hb:b.toList=done.map gc) (hs:s'={s with toks:=s.toks+bf done}):HsI prog w s ks rest b s'
theorem HsI.step{ks:List RK}{x:Value}{rest:List Value}{b:Array Int}{s':Shared}(i:HsI prog w s ks (x::rest) b s'):∃k,EIs prog w s'.heap k x∧HsI prog w s ks rest (b.push (gc k)) {s' with toks:=s'.toks+np k}:=by
 obtain⟨done,left,rfl,hl,hb,rfl⟩:=i
 cases hl with
 |@cons k _ ks' _ h1 hl=>exact⟨k,h1,done++[k],ks',List.append_cons ..,hl,by simp [hb],congrArg (fun t=>{s with toks:=t}) (by rw [fW,←Nat.add_assoc];rfl)⟩
theorem nu{ks:List RK}{a:Addr}{Q:Int→Shared→Prop}(hu:A.units+1 < cLine)(hk:IsRow prog w s.heap ks a)(h:Q (eP ks) {s with toks:=s.toks+(bf ks+1)}):
  wpAny (model prog w) A (pyHash (.ref a)) Q E s:=by
 have hT:=hk.typeIs;obtain⟨o,items,n,ho,_,hd,hi⟩:=hk;unfold pyHash
 first|unfold pyHashByItsType|skip
 first|refine wpAny_bind (wpAny_cRoomFor_or (.inr (by lia)) ?_)|skip
 refine wpAny_bind (wpAny_specialOf hT F.slot_tuple_hash.lookup ?_)
 show wpAny _ _ (if (some (Value.builtin "tuple.__hash__")==some Value.none)=true then _ else _) Q E s
 rw [if_neg (by rw [beq_builtin_none];exact Bool.false_ne_true)]
 refine wpAny_bind (wpAny_specialOf hT F.slot_tuple_hash.lookup ?_)
 show wpAny _ _ (callSpecialIfBoundUnlessNone? (.ref a) "__hash__" _ >>=_) Q E s
 refine wpAny_bind (wpAny_callSpecialIfBoundUnlessNone?_slot hT F.slot_tuple_hash (wpAny_call_entry F.slot_tuple_hash hT F.entry_tuple_hash ?_ (F.args_tuple_hash_1 _)))
 show wpAny _ _ (Builtin.Tuple.tupleItemsOf (.ref a) >>=_) _ _ s
 refine wpAny_bind (wpAny_tupleItemsOf ho hd ?_);refine wpAny_bind ?_;rw [←Array.forIn_toList];refine wpAny_forIn_list _ (HsI prog w s ks) _ ?_ ?_ _ _ ⟨[],ks,rfl,hi,rfl,rfl⟩
 ·rintro x rest b s' i
  obtain⟨k,h1,h2⟩:=i.step;refine wpAny_bind (sr hu h1 ?_)
  first
   |exact wpAny_pure h2
   |exact wpAny_bind (wpAny_pure (wpAny_pure h2))
 ·rintro b s' ⟨done,left,rfl,hl,hb,rfl⟩
  cases hl;rw [List.append_nil]at h
  show wpAny _ _ (retInt (Builtin.Tuple.tupleHashOf b.toList)) _ _ _
  rw [hb];refine wpAny_ret_mkInt ?_
  show wpAny _ _ (if (decide (-(2:Int) ^ 63≤Builtin.Tuple.tupleHashOf (done.map gc)) && decide (Builtin.Tuple.tupleHashOf (done.map gc) < 2 ^ 63))=true then _ else _) Q E _
  unfold eP reduceHash at h
  by_cases hr:(decide (-(2:Int) ^ 63≤Builtin.Tuple.tupleHashOf (done.map gc)) && decide (Builtin.Tuple.tupleHashOf (done.map gc) < 2 ^ 63))=true
  ·rw [if_pos hr];rw [if_pos hr]at h;exact wpAny_pure h
  ·rw [if_neg hr];rw [if_neg hr]at h;exact wpAny_bind (wpAny_rule (wpAny_pure h))
inductive EqI(prog:Program)(w:World)(h:Heap)(x y:List RK)(q:Bool)(rest:List (Value×Value)):Prop
 |mk (x' y':List RK) (xs' ys':List Value) (hz:rest=List.zip xs' ys') (hx:EsAre prog w h x' xs') (hy:EsAre prog w h y' ys') (hd:decide (x'=y')=decide (x=y)) (hl:(xs'.length==ys'.length)=q):EqI prog w h x y q rest
theorem sw{k1 k2:RK}{a b:List RK}(e:k1=k2):decide (k1::a=k2::b)=decide (a=b):=by
 subst e;simp
theorem GL{k1 k2:RK}{a b:List RK}(e:k1≠k2):decide (k1::a=k2::b)=false:=decide_eq_false fun h=>e (List.cons.inj h).1
theorem GM(n m:Nat):(n+1==m+1)=(n==m):=by simp
theorem EqI.step{h:Heap}{x y:List RK}{q:Bool}{u v:Value}{rest:List (Value×Value)}(i:EqI prog w h x y q ((u,v)::rest)):∃k1 k2,EIs prog w h k1 u∧EIs prog w h k2 v∧(k1=k2→EqI prog w h x y q rest)∧(k1≠k2→decide (x=y)=false):=by
 obtain⟨x',y',xs',ys',hz,hx,hy,hd,hl⟩:=i
 cases hx with
 |nil=>simp at hz
 |cons h1 hx=>
  cases hy with
  |nil=>simp at hz
  |cons h2 hy=>
   obtain⟨e1,rfl⟩:=List.cons.inj hz;obtain⟨rfl,rfl⟩:=Prod.mk.inj e1
   exact⟨_,_,h1,h2,fun e=>⟨_,_,_,_,rfl,hx,hy,(sw e).symm.trans hd,(GM ..).symm.trans hl⟩,fun e=>hd.symm.trans (GL e)⟩
theorem EqI.fin{h:Heap}{x y:List RK}{q:Bool}(i:EqI prog w h x y q []):q=decide (x=y):=by
 obtain⟨x',y',xs',ys',hz,hx,hy,hd,hl⟩:=i
 cases hx with
 |nil=>
  cases hy with
  |nil=>exact hl.symm.trans hd
  |cons _ _=>exact hl.symm.trans hd
 |cons _ _=>
  cases hy with
  |nil=>exact hl.symm.trans hd
  |cons _ _=>simp at hz
theorem mE{x y:List RK}{a b:Addr}{P:Fin→Shared→Prop}(hu:A.units < cLine)(hx:IsRow prog w s.heap x a)(hy:IsRow prog w s.heap y b)(h:P (.done (.ret (.bool (decide (x=y))))) s):
  wpAny (model prog w) A (Builtin.«tuple.__eq__» ⟨[.ref a,.ref b],[]⟩) P E s:=by
 have hTb:=hy.typeIs;obtain⟨oa,xs,na,hoa,_,hda,hia⟩:=hx;obtain⟨ob,ys,nb,hob,_,hdb,hib⟩:=hy
 show wpAny _ _ (isInstance (.ref b) (.type "tuple") >>=_) _ _ s
 refine wpAny_bind (wpAny_isInstance hTb isSubtype_tuple_tuple ?_)
 rw [if_neg (show ¬(!true)=true by decide)]
 refine wpAny_bind (wpAny_tupleItemsOf hoa hda ?_);refine wpAny_bind (wpAny_tupleItemsOf hob hdb ?_);refine wpAny_bind ?_
 refine wpAny_forIn_list _ (fun rest r s'=>r.1=none∧s'=s∧EqI prog w s.heap x y (xs.size==ys.size) rest) _ ?_ ?_ _ _ ⟨rfl,rfl,x,y,xs.toList,ys.toList,rfl,hia,hib,rfl,by simp⟩
 ·rintro⟨u,v⟩ rest r s' ⟨hr,rfl,i⟩
  obtain⟨k1,k2,h1,h2,i1,i2⟩:=i.step;refine wpAny_bind (su hu h1 h2 ?_)
  by_cases hk:k1=k2
  ·rw [decide_eq_true hk,if_neg (show ¬(!true)=true by decide)]
   exact wpAny_pure ⟨rfl,rfl,i1 hk⟩
  ·rw [decide_eq_false hk,if_pos (show (!false)=true by decide)]
   rw [i2 hk]at h;exact wpAny_bind (wpAny_pure (wpAny_pure (wpAny_pure h)))
 ·rintro⟨r1,r2⟩ s' ⟨hr,rfl,i⟩
  obtain rfl:r1=none:=hr;refine wpAny_pure ?_
  show P (.done (.ret (.bool (xs.size==ys.size)))) s'
  rw [i.fin];exact h
theorem nw{x y:List RK}{a b:Addr}{Q:Bool→Shared→Prop}(hu:A.units+1 < cLine)(hx:IsRow prog w s.heap x a)(hy:IsRow prog w s.heap y b)(h:Q (decide (x=y)) s):
  wpAny (model prog w) A (eqBool (.ref a) (.ref b)) Q E s:=by
 unfold eqBool
 try with_reducible refine wpAny_holding ?_
 show wpAny _ _ (if (Value.ref a==Value.ref b)=true then _ else _) Q E s
 by_cases hab:(Value.ref a==Value.ref b)=true
 ·rw [if_pos hab]
  have e:a=b:=by have:=eq_of_beq hab;injection this
  subst e;obtain rfl:=hx.inj hy
  exact wpAny_bind (wpAny_rule (wpAny_pure (by simpa using h)))
 ·rw [if_neg hab]
  exact wpAny_bind (wpAny_richCompare_same_room (op:=.Eq) hx.typeIs hy.typeIs F.slot_tuple_eq
   (wpAny_call_entry F.slot_tuple_eq hx.typeIs F.entry_tuple_eq (mE (A:=A.in1) hu hx hy ⟨_,rfl,(fun e=>nomatch e),wpAny_truthy_bool h⟩) (F.args_tuple_eq_2 _ _)) (by lia))
theorem qn(q:Nat){ks:List Int}{a:Addr}{Q:Bool→Shared→Prop}(hk:IsTupleKey (intKind prog w) s.heap ks a)(h:Q true s):wpAny (model prog w) A (eqIsQuiet (q+1) (.ref a)) Q E s:=by
 have hT:=hk.typeIs;obtain⟨o,items,n,ho,_,hd,hi⟩:=hk;unfold eqIsQuiet;refine wpAny_bind (wpAny_specialOf hT F.slot_tuple_eq.lookup ?_)
 show wpAny _ _ (isInstance (.ref a) (.type "tuple") >>=_) _ _ s
 refine wpAny_bind (wpAny_isInstance hT isSubtype_tuple_tuple ?_);simp only [Bool.not_true,Bool.false_eq_true,if_false];refine wpAny_bind (wpAny_seqItems ho hd ?_);refine wpAny_bind ?_
 show wpAny _ _ (forIn items _ _) _ _ s
 rw [←Array.forIn_toList]
 refine wpAny_forIn_list _ (fun rest r s'=>r.1=none∧s'=s∧∀v ∈ rest,carriedByValue v=true) _ ?_ ?_ _ _ ⟨rfl,rfl,hi.byValue⟩
 ·rintro v rest r s' ⟨hr,rfl,hall⟩
  rw [eqIsQuiet_byValue _ (hall v List.mem_cons_self)];refine wpAny_bind (wpAny_pure ?_);simp only [Bool.not_true,Bool.false_eq_true,if_false]
  exact wpAny_pure ⟨rfl,rfl,fun u hu'=>hall u (List.mem_cons_of_mem _ hu')⟩
 ·rintro⟨r1,r2⟩ s' ⟨hr,rfl,_⟩
  simp only at hr;subst hr;exact wpAny_pure h
theorem w5(q:Nat){k:RK}{v:Value}{Q:Bool→Shared→Prop}(hk:EIs prog w s.heap k v)(h:Q true s):wpAny (model prog w) A (eqIsQuiet (q+1) v) Q E s:=by
 cases k with
 |inl i=>
  obtain⟨t,rfl⟩:=Value.isInt_shape hk;rw [eqIsQuiet_byValue _ rfl];exact wpAny_pure h
 |inr ks=>obtain⟨b,rfl,h1⟩:=hk;exact qn q h1 h
theorem qo{ks:List RK}{a:Addr}{Q:Bool→Shared→Prop}(hk:IsRow prog w s.heap ks a)(h:Q true s):wpAny (model prog w) A (eqIsQuiet 8 (.ref a)) Q E s:=by
 have hT:=hk.typeIs;obtain⟨o,items,n,ho,_,hd,hi⟩:=hk;unfold eqIsQuiet;refine wpAny_bind (wpAny_specialOf hT F.slot_tuple_eq.lookup ?_)
 show wpAny _ _ (isInstance (.ref a) (.type "tuple") >>=_) _ _ s
 refine wpAny_bind (wpAny_isInstance hT isSubtype_tuple_tuple ?_);simp only [Bool.not_true,Bool.false_eq_true,if_false];refine wpAny_bind (wpAny_seqItems ho hd ?_);refine wpAny_bind ?_
 show wpAny _ _ (forIn items _ _) _ _ s
 rw [←Array.forIn_toList]
 refine wpAny_forIn_list _ (fun rest r s'=>r.1=none∧s'=s∧∃left,EsAre prog w s.heap left rest) _ ?_ ?_ _ _ ⟨rfl,rfl,_,hi⟩
 ·rintro v rest r s' ⟨hr,rfl,left,hl⟩
  cases hl with
  |cons h1 hl'=>
   refine wpAny_bind (w5 6 h1 ?_);simp only [Bool.not_true,Bool.false_eq_true,if_false];exact wpAny_pure ⟨rfl,rfl,_,hl'⟩
 ·rintro⟨r1,r2⟩ s' ⟨hr,rfl,_⟩
  simp only at hr;subst hr;exact wpAny_pure h
end
noncomputable def dY(prog:Program)(w:World):HeapKind prog w (List RK) where
 is:=IsRow prog w
 hash:=eP
 draws:=fun ks=>bf ks+1
 room:=fun A=>A.units+1 < cLine
 inj:=fun hx hy=>hx.inj hy
 keeps:=fun x ho hd hs=>x.keeps ho hd hs
 pyHash:=fun hu hk h=>nu hu hk h
 eqBool:=fun hu hx hy h=>nw hu hx hy h
 quiet:=fun hk h=>qo hk h
structure LS where
 RL:List (Addr×Obj)
 im:List (Addr×Obj)
 ks:List (Bool×Int)
variable{l2:LS}
noncomputable abbrev LS.as(l:LS):List Addr:=l.RL.map (·.1)
noncomputable abbrev LS.VR(l:LS):MV→Value→Prop:=Mine.VR l.as l.ks l.im
noncomputable abbrev LS.VRs(l:LS):List MV→List Value→Prop:=Mine.VRs l.as l.ks l.im
structure Ext(l l':LS):Prop where
 as:l.as <+:l'.as
 ks:l.ks <+:l'.ks
 im:∀p ∈ l.im,p ∈ l'.im
variable{as:List Addr}{ks:List (Bool×Int)}
theorem Ext.rfl'{l:LS}:Ext l l:=⟨prZ,prZ,fun _ h=>h⟩
theorem Ext.trans{a b c:LS}(x:Ext a b)(y:Ext b c):Ext a c:=⟨x.as.trans y.as,x.ks.trans y.ks,fun p h=>y.im p (x.im p h)⟩
theorem Ext.vr{l l':LS}(x:Ext l l'){v:MV}{w:Value}(h:l.VR v w):l'.VR v w:=h.mono x.as x.ks x.im
theorem Ext.vrs{l l':LS}(x:Ext l l'){v:List MV}{w:List Value}(h:l.VRs v w):l'.VRs v w:=h.mono x.as x.ks x.im
inductive Ents(P:Params)(as:List Addr)(ks:List (Bool×Int))(im:List (Addr×Obj)):List (Str×MV)→List DictEntry→Prop
 |nil:Ents P as ks im [] []
 |cons {x:Str} {v:MV} {w:Value} {t:Tok} {es:List (Str×MV)} {ds:List DictEntry} (h:VR as ks im v w) (hs:Ents P as ks im es ds):Ents P as ks im ((x,v)::es) (⟨PyData.keyHash P x,.str x t,w⟩::ds)
def bn(ks:List (Bool×Int)):MV→Option Int
 | .int i=>some i
 | .kd t=>bQ ks t
 |_=>none
def cg(ks:List (Bool×Int)):List MV→Option (List Int)
 |[]=>some []
 |v::r=>ob (bn ks v) fun i=>ob (cg ks r) fun is=>some (i::is)
def dC(ks:List (Bool×Int))(v:MV):Option RK:=match v with
 | .tup vs=>ob (cg ks vs) fun is=>some (.inr is)
 |v=>ob (bn ks v) fun i=>some (.inl i)
def dz(ks:List (Bool×Int)):List MV→Option (List RK)
 |[]=>some []
 |v::r=>ob (dC ks v) fun i=>ob (dz ks r) fun is=>some (i::is)
def ee(ks:List (Bool×Int)):MV→Option (List RK)
 | .tup vs=>dz ks vs
 |_=>none
inductive KVs(as:List Addr)(ks:List (Bool×Int))(im:List (Addr×Obj)):List (MV×MV)→List (Int×Value)→Prop
 |nil:KVs as ks im [] []
 |cons {k v:MV} {i:Int} {x:Value} {es:List (MV×MV)} {zw:List (Int×Value)} (hk:bn ks k=some i) (hv:VR as ks im v x) (hs:KVs as ks im es zw):KVs as ks im ((k,v)::es) ((i,x)::zw)
inductive HVs(as:List Addr)(ks:List (Bool×Int))(im:List (Addr×Obj)):List (MV×MV)→List (List RK×Addr×Value)→Prop
 |nil:HVs as ks im [] []
 |cons {k v:MV} {r:List RK} {a:Addr} {x:Value} {es:List (MV×MV)} {xs:List (List RK×Addr×Value)} (hk:ee ks k=some r) (ha:VR as ks im k (.ref a)) (hv:VR as ks im v x) (hs:HVs as ks im es xs):HVs as ks im ((k,v)::es) ((r,a,x)::xs)
inductive OR(P:Params)(as:List Addr)(ks:List (Bool×Int))(im:List (Addr×Obj)):MO→Obj→Prop
 |list {vs:List MV} {ws:List Value} {ep:Nat} (h:VRs as ks im vs ws) (hl:vs.length≤1048576):OR P as ks im (.list vs) (listOf ws.toArray ep)
 |inst {c d:Nat} {a:Addr} (h:as[d]? =some a):OR P as ks im (.inst c d) (instObj c a)
 |idict {c:Nat} {es:List (Str×MV)} {ds:List DictEntry} {ep:Nat} (h:Ents P as ks im es ds) (hf:∀p ∈ es,((dS c flds).bind (c7 p.1)).isSome=true) (hl:es.length≤900):OR P as ks im (.idict c es) (dictOf ds ep)
 |ndict {es:List (MV×MV)} {zw:List (Int×Value)} {o:Obj} (h:KVs as ks im es zw) (hl:es.length≤1048576) (ho:∀w:World,o.IsDictOf (intKind pg w) zw):OR P as ks im (.dict es) o
 |hdict {es:List (MV×MV)} {xs:List (List RK×Addr×Value)} {o:Obj} {ds:Array DictEntry} {ep:Nat} (h:HVs as ks im es xs) (hl:es.length≤1048576) (hc:o.ExactDict) (hd:o.data=.dict ds ep)
   (hds:ds.toList=xs.map fun x=>⟨eP x.1,.ref x.2.1,x.2.2⟩) (hn:(xs.map (·.1)).Nodup):OR P as ks im (.dict es) o
 |any {o:Obj} (h:o.cls≠ .type "tuple"):OR P as ks im .any o
 |ktb {a:Addr}:OR P as ks im .ktb (instObj 86 a)
section
variable{im:List (Addr×Obj)}{o:Obj}
def OI(P:Params)(as:List Addr)(ks:List (Bool×Int))(im:List (Addr×Obj))(m:MO)(o:Obj):Prop:=match m with
 | .list vs=>∃ws ep,o=listOf ws.toArray ep∧VRs as ks im vs ws∧vs.length≤1048576
 | .inst c d=>∃a,o=instObj c a∧as[d]? =some a
 | .dict es=>es.length≤1048576∧((∃zw,KVs as ks im es zw∧∀w:World,o.IsDictOf (intKind pg w) zw)∨∃xs ds ep,HVs as ks im es xs∧o.ExactDict∧o.data=.dict ds ep∧(ds.toList=xs.map fun x=>⟨eP x.1,.ref x.2.1,x.2.2⟩)∧(xs.map (·.1)).Nodup)
 | .idict c es=>∃ds ep,o=dictOf ds ep∧Ents P as ks im es ds∧(∀p ∈ es,((dS c flds).bind (c7 p.1)).isSome=true)∧es.length≤900
 | .any=>True
 | .ktb=>∃a,o=instObj 86 a
theorem OR.inv{m:MO}(h:OR P as ks im m o):OI P as ks im m o:=by
 cases h with
 |list h hl=>exact⟨_,_,rfl,h,hl⟩
 |inst h=>exact⟨_,rfl,h⟩
 |idict h hf hl=>exact⟨_,_,rfl,h,hf,hl⟩
 |ndict h hl ho=>exact⟨hl,.inl ⟨_,h,ho⟩⟩
 |hdict h hl hc hd hds hn=>exact⟨hl,.inr ⟨_,_,_,h,hc,hd,hds,hn⟩⟩
 |any h=>exact trivial
 |ktb=>exact⟨_,rfl⟩
theorem OR.listI{vs:List MV}(h:OR P as ks im (.list vs) o):∃ws ep,o=listOf ws.toArray ep∧VRs as ks im vs ws∧vs.length≤1048576:=h.inv
theorem OR.instI{c d:Nat}(h:OR P as ks im (.inst c d) o):∃a,o=instObj c a∧as[d]? =some a:=h.inv
theorem OR.dictI{es:List (MV×MV)}(h:OR P as ks im (.dict es) o):es.length≤1048576∧((∃zw,KVs as ks im es zw∧∀w:World,o.IsDictOf (intKind pg w) zw)∨∃xs ds ep,HVs as ks im es xs∧o.ExactDict∧o.data=.dict ds ep∧(ds.toList=xs.map fun x=>⟨eP x.1,.ref x.2.1,x.2.2⟩)∧(xs.map (·.1)).Nodup):=h.inv
theorem OR.idictI{c:Nat}{es:List (Str×MV)}(h:OR P as ks im (.idict c es) o):∃ds ep,o=dictOf ds ep∧Ents P as ks im es ds∧(∀p ∈ es,((dS c flds).bind (c7 p.1)).isSome=true)∧es.length≤900:=h.inv
end
inductive ORs(P:Params)(as:List Addr)(ks:List (Bool×Int))(im:List (Addr×Obj)):List MO→List (Addr×Obj)→Prop
 |nil:ORs P as ks im [] []
 |cons {o:MO} {p:Addr×Obj} {os:List MO} {ps:List (Addr×Obj)} (h:OR P as ks im o p.2) (hs:ORs P as ks im os ps):ORs P as ks im (o::os) (p::ps)
theorem Ents.mono{P:Params}{as as':List Addr}{ks ks':List (Bool×Int)}{im im':List (Addr×Obj)}(ha:as <+:as')(hk:ks <+:ks')(hi:∀p ∈ im,p ∈ im'){es:List (Str×MV)}{ds:List DictEntry}(h:Ents P as ks im es ds):Ents P as' ks' im' es ds:=by
 induction h with
 |nil=>exact .nil
 |cons h _ ih=>exact .cons (h.mono ha hk hi) ih
theorem gC{ks ks':List (Bool×Int)}(hk:ks <+:ks'){v:MV}{k:Int}(h:bn ks v=some k):bn ks' v=some k:=by
 cases v <;>first|exact h|exact gB hk h|exact aF h
theorem fX{ks ks':List (Bool×Int)}:∀{vs:List MV} {is:List Int},(∀v ∈ vs,∀i,bn ks v=some i→bn ks' v=some i)→cg ks vs=some is→cg ks' vs=some is
 |[],_,_,h=>h
 |v::r,_,H,h=>by
  obtain⟨i,h1,h⟩:=bV h;obtain⟨u,h2,h⟩:=bV h;unfold cg
  rw [H v (.head _) i h1,fX (fun x hx=>H x (.tail _ hx)) h2]
  exact h
theorem gD{ks:List (Bool×Int)}{x:MV}{i:RK}(h:dC ks x=some i):(∃a,bn ks x=some a∧i=.inl a)∨∃vs a,x=.tup vs∧cg ks vs=some a∧i=.inr a:=by
 cases x with
 |tup vs=>
  obtain⟨a,h1,h2⟩:=bV h;exact .inr ⟨vs,a,rfl,h1,(oiZ h2).symm⟩
 |kd t=>exact .inl (let ⟨a,h1,h2⟩:=bV h;⟨a,h1,(oiZ h2).symm⟩)
 |int j=>exact .inl ⟨j,rfl,(oiZ h).symm⟩
 |_=>exact aF h
theorem kA{ks:List (Bool×Int)}{x:MV}{i:Int}(h:bn ks x=some i):dC ks x=some (.inl i):=by
 cases x <;>first|exact aF h|(unfold dC;dsimp only;rw [h];rfl)
theorem kB{ks:List (Bool×Int)}{vs:List MV}{i:List Int}(h:cg ks vs=some i):dC ks (.tup vs)=some (.inr i):=by
 unfold dC;dsimp only;rw [h];rfl
theorem fY{ks ks':List (Bool×Int)}:∀{vs:List MV} {is:List RK},(∀v ∈ vs,∀i,dC ks v=some i→dC ks' v=some i)→dz ks vs=some is→dz ks' vs=some is
 |[],_,_,h=>h
 |v::r,_,H,h=>by
  obtain⟨i,h1,h⟩:=bV h;obtain⟨u,h2,h⟩:=bV h;unfold dz
  rw [H v (.head _) i h1,fY (fun x hx=>H x (.tail _ hx)) h2]
  exact h
theorem qp{ks ks':List (Bool×Int)}(hk:ks <+:ks'){v:MV}{k:RK}(h:dC ks v=some k):dC ks' v=some k:=by
 rcases gD h with⟨a,h1,rfl⟩|⟨vs,a,rfl,h1,rfl⟩
 ·exact kA (gC hk h1)
 ·exact kB (fX (fun _ _ _=>gC hk) h1)
theorem qq{ks ks':List (Bool×Int)}(hk:ks <+:ks'){v:MV}{k:List RK}(h:ee ks v=some k):ee ks' v=some k:=by
 cases v <;>first|exact fY (fun _ _ _=>qp hk) h|exact aF h
theorem KVs.mono{as as':List Addr}{ks ks':List (Bool×Int)}{im im':List (Addr×Obj)}(ha:as <+:as')(hk:ks <+:ks')(hi:∀p ∈ im,p ∈ im'){es:List (MV×MV)}{ds:List (Int×Value)}(h:KVs as ks im es ds):KVs as' ks' im' es ds:=by
 induction h with
 |nil=>exact .nil
 |cons h hv _ ih=>exact .cons (gC hk h) (hv.mono ha hk hi) ih
theorem HVs.mono{as as':List Addr}{ks ks':List (Bool×Int)}{im im':List (Addr×Obj)}(ha:as <+:as')(hk:ks <+:ks')(hi:∀p ∈ im,p ∈ im'){es:List (MV×MV)}{ds:List (List RK×Addr×Value)}(h:HVs as ks im es ds):HVs as' ks' im' es ds:=by
 induction h with
 |nil=>exact .nil
 |cons h h2 hv _ ih=>exact .cons (qq hk h) (h2.mono ha hk hi) (hv.mono ha hk hi) ih
theorem OR.mono{P:Params}{as as':List Addr}{ks ks':List (Bool×Int)}{im im':List (Addr×Obj)}(ha:as <+:as')(hk:ks <+:ks')(hi:∀p ∈ im,p ∈ im'){o:MO}{b:Obj}(h:OR P as ks im o b):OR P as' ks' im' o b:=by
 cases h with
 |list h hl=>exact .list (h.mono ha hk hi) hl
 |inst h=>exact .inst (be ha h)
 |idict h hf hl=>exact .idict (h.mono ha hk hi) hf hl
 |ndict h hl ho=>exact .ndict (h.mono ha hk hi) hl ho
 |hdict h hl hc hd hds hn=>exact .hdict (h.mono ha hk hi) hl hc hd hds hn
 |any h=>exact .any h
 |ktb=>exact .ktb
theorem ORs.mono{P:Params}{as as':List Addr}{ks ks':List (Bool×Int)}{im im':List (Addr×Obj)}(ha:as <+:as')(hk:ks <+:ks')(hi:∀p ∈ im,p ∈ im'){os:List MO}{ps:List (Addr×Obj)}(h:ORs P as ks im os ps):ORs P as' ks' im' os ps:=by
 induction h with
 |nil=>exact .nil
 |cons h _ ih=>exact .cons (h.mono ha hk hi) ih
theorem ORs.length{P:Params}{as:List Addr}{ks:List (Bool×Int)}{im:List (Addr×Obj)}{os:List MO}{ps:List (Addr×Obj)}(h:ORs P as ks im os ps):os.length=ps.length:=by
 induction h with
 |nil=>rfl
 |cons _ _ ih=>exact congrArg Nat.succ ih
theorem ORs.get{P:Params}{as:List Addr}{ks:List (Bool×Int)}{im:List (Addr×Obj)}{os:List MO}{ps:List (Addr×Obj)}(h:ORs P as ks im os ps){i:Nat}{o:MO}(e:os[i]? =some o):∃p,ps[i]? =some p∧OR P as ks im o p.2:=by
 induction h generalizing i with
 |nil=>exact nomatch (List.getElem?_nil.symm.trans e)
 |cons h hs ih=>
  cases i with
  |zero=>exact⟨_,rfl,oiZ e ▸h⟩
  |succ i=>exact ih e
theorem ORs.snoc{P:Params}{as:List Addr}{ks:List (Bool×Int)}{im:List (Addr×Obj)}{os:List MO}{ps:List (Addr×Obj)}(h:ORs P as ks im os ps){o:MO}{p:Addr×Obj}(g:OR P as ks im o p.2):ORs P as ks im (os++[o]) (ps++[p]):=by
 induction h with
 |nil=>exact .cons g .nil
 |cons h _ ih=>exact .cons h ih
theorem ORs.set{P:Params}{as:List Addr}{ks:List (Bool×Int)}{im:List (Addr×Obj)}{os:List MO}{ps:List (Addr×Obj)}(h:ORs P as ks im os ps){o:MO}{p:Addr×Obj}(g:OR P as ks im o p.2)(i:Nat):ORs P as ks im (os.set i o) (ps.set i p):=by
 induction h generalizing i with
 |nil=>exact .nil
 |cons h hs ih=>
  cases i with
  |zero=>exact .cons g hs
  |succ i=>exact .cons h (ih i)
noncomputable def MO.plain:MO→Bool
 | .any=>false
 | .ktb=>false
 |_=>true
noncomputable def rows0:List MV:=(List.range 16).map (fun i=>.tup [.int 1,.int i])++[.tup [.int 2,.int 64,.tup []],.tup [.int 2,.int 65,.tup []],.tup [.int 2,.int 66,.tup [.int 9]],.tup [.int 2,.int 67,.tup []],.tup [.int 2,.int 2,.tup []],
 .tup [.int 3,.int 68,.tup []],.tup [.int 2,.int 69,.tup []],.tup [.int 2,.int 70,.tup []],.tup [.int 6,.int 0]]
noncomputable def deps0:List MV:=List.replicate 18 (.int 1)++[.int 2]++List.replicate 6 (.int 1)
noncomputable def wgts0:List MV:=List.replicate 18 (.int 1)++[.int 2]++List.replicate 6 (.int 1)
noncomputable def opns0:List MV:=List.replicate 24 (.int 0)++[.int 1]
noncomputable def eQ:Nat→List MV→List (MV×MV)
 |_,[]=>[]
 |n,r::rs=>(r,.int n)::eQ (n+1) rs
inductive mF:MV→Prop
 |two {t:Int} {i:Nat} (h:t ∈ [(4:Int),5,8,9,11]) (h1:i < 25):mF (.tup [.int t,.int (.ofNat i)])
 |box {i:Nat} (h1:i < 25):mF (.tup [.int 2,.int 66,.tup [.int (.ofNat i)]])
def bH(i:Nat)(E:List MV)(D W O:List Int):List MO:=[.inst 86 (i+1),.idict 86 (ktN.map fun p=>(p.1,.ref (i+p.2))),
 .list (rows0++E),.dict (eQ 0 (rows0++E)),.list (deps0++D.map .int),.list (wgts0++W.map .int),.list (opns0++O.map .int)]
structure TabE(rows:List (Int×MV))(dyn:List MV)(ks:List (Bool×Int))(E:List MV)(D W O:List Int):Prop where
 ln:ks.length=dyn.length
 at':∀(t:Nat) (vs:List MV),dyn[t]? =some (.tup vs)→∃j:Nat,E[j]? =some (.tup vs)∧ks[t]? =some (true,Int.ofNat (25+j))
 tr:∀t k,bQ ks t=some k→∃vs,dyn[t]? =some (.tup vs)
 rw':∀k row,(k,row) ∈ rows→∃j:Nat,E[j]? =some row∧k=Int.ofNat (25+j)
 nd:E.Nodup
 ok:∀r ∈ E,mF r∧r ∉ rows0
 dl:D.length=E.length
 wl:W.length=E.length
 ol:O.length=E.length
structure Wd where
 w:World
 B:List (MO×Addr×Obj)
 op:List Int
 rows:List (Int×MV)
variable{w w':Wd}
noncomputable abbrev Wd.params(w:Wd):Params:=w.w.params
inductive TabR(w:Wd)(as:List Addr)(ks:List (Bool×Int))(im:List (Addr×Obj))(RL:List (Addr×Obj))(dyn:List MV)(i:Nat):Prop
 |mk (E:List MV) (D W O:List Int) (h:TabE w.rows dyn ks E D W O∧i=2) (hO:ORs w.params as ks im (bH i E D W O) ((RL.drop i).take 7)):TabR w as ks im RL dyn i
theorem TabR.mono{P:Wd}{as as':List Addr}{ks:List (Bool×Int)}{im im':List (Addr×Obj)}{RL RL':List (Addr×Obj)}{dyn:List MV}{i:Nat}(ha:as <+:as')(hi:∀p ∈ im,p ∈ im')(hr:(RL'.drop i).take 7=(RL.drop i).take 7)(h:TabR P as ks im RL dyn i):TabR P as' ks im' RL' dyn i:=by
 obtain⟨E,D,W,O,h1,h2⟩:=h
 exact⟨E,D,W,O,h1,by rw [hr];exact h2.mono ha prZ hi⟩
theorem TabR.len{P:Wd}{as:List Addr}{ks:List (Bool×Int)}{im:List (Addr×Obj)}{RL:List (Addr×Obj)}{dyn:List MV}{i:Nat}(h:TabR P as ks im RL dyn i):i+7≤RL.length:=by
 obtain⟨E,D,W,O,h1,h2⟩:=h;have:=h2.length;simp only [bH,List.length_cons,List.length_nil,yeZ,List.length_drop]at this
 lia
noncomputable def Fits(o:MO×Addr×Obj)(r:Option (Addr×Obj)):Prop:=∃b,r=some (o.2.1,b)∧(o.1.plain=true→b=o.2.2)
theorem Fits.lt{o:MO×Addr×Obj}{L:List (Addr×Obj)}{i:Nat}(h:Fits o L[i]?):i < L.length:=(ybZ.mp h.choose_spec.1).1
structure HR(P:Wd)(l:LS)(st:MS):Prop where
 obj:ORs P.params l.as l.ks l.im st.H l.RL
 nd:l.as.Nodup
 imt:∀p ∈ l.im,∃ws,p.2=ay ws
 kn:KN l.ks
 kb:KB l.ks
 tab:∀i,st.H[i]? =some .ktb→TabR P l.as l.ks l.im l.RL st.dyn i∧∀j,1≤j→j≤6→st.H[i+j]? =some .any
structure Now(w:Wd)(h₀:Heap)(L:Addr)(m:Str→Option Value)(X:List (Addr×Obj))(l:LS)(st:MS)(s:Shared):Prop where
 F:Fr h₀ L s.heap m
 N:News h₀ L s.heap (l.RL++(l.im++X))
 H:HR w l st
 ap:∀p ∈ X,∀q ∈ l.RL,p.1≠q.1
 sm:∀p ∈ l.RL,(p.1==sysModules)=false
 bq:∀i o,i < st.bas→w.B[i]? =some o→st.H[i]? =some o.1∧Fits o l.RL[i]?
 oq:∀(n:Nat) (k:Int),w.op[n]? =some k→l.ks[n]? =some (false,k)
structure Fm where
 A₀:Around
 A:Around
 base:Heap
 h₀:Heap
 outer:List Env
 qual:Str
 scope:Scope
 L:Addr
 f:Addr
 cdv:Value
 cl:List (Str×Addr)
 mean:ExcName→Option Value
 mg:Str→Option Value
 mb:Str→Option Value
variable{F:Fm}{A:Around}{h₀:Heap}{L:Addr}{f:FI}
noncomputable abbrev Fm.env(F:Fm):Env:=envX F.qual F.scope F.L F.f F.cdv F.cl
structure Sit(w:Wd)(F:Fm):Prop where
 B:Below F.A₀ F.base F.outer F.h₀
 K:(Kf w.params).In F.h₀
 T:Top q1 (looseW q1 bW) F.mean F.mg F.mb F.h₀
 fr:F.A.frames=some (F.env::F.outer)
 hd:F.A.handled=none
 kind:F.scope.kind=.function
 dbg:F.scope.names.lookup ("__debug__":Str)=none
 gen:F.scope.isGenerator=false
 co:F.scope.isCoroutine=false
 cdc:F.scope.names.lookup ("__classdict__":Str)=none
variable{K:List Itm}
noncomputable abbrev M(w:Wd):Model:=model pg w.w
noncomputable def Same(s s':Shared):Prop:=s'={s with heap:=s'.heap,toks:=s'.toks}
theorem Same.rfl'{s:Shared}:Same s s:=rfl
theorem Same.trans{a b c:Shared}(x:Same a b)(y:Same b c):Same a c:=by
 unfold Same at *;rw [y,x]
theorem Same.mk'{s:Shared}{h:Heap}{t:Nat}:Same s {s with heap:=h,toks:=t}:=rfl
def LocR(F:Fm)(X:List (Addr×Obj))(l:LS)(zl:Loc)(m:Str→Option Value):Prop:=∀x v,zl.lookup x=some v→bC F.scope.names x=some true→∃v',l.VR v v'∧
 ((F.scope.names.lookup x=some .local∧m x=some v')∨((F.scope.names.lookup x=some .cell∨F.scope.names.lookup x=some .free)∧∃c o,F.cl.lookup x=some c∧(c,o) ∈ X∧o.data=.cell (some v')))
theorem LocR.mono{F:Fm}{X:List (Addr×Obj)}{l l':LS}{zl:Loc}{m:Str→Option Value}(h:LocR F X l zl m)(x:Ext l l'):LocR F X l' zl m:=fun y v e i=>let ⟨v',h1,h2⟩:=h y v e i;⟨v',x.vr h1,h2⟩
noncomputable def Room(A:Around)(d:Nat):Prop:=A.depth+3 * d≤800∧A.units+20 * d≤900
noncomputable def ge(A:Around)(d:Nat):Prop:=A.depth+3 * d≤802∧A.units+20 * d≤910
def Goes(w:Wd)(F:Fm)(m:Str→Option Value)(X:List (Addr×Obj))(l:LS)(s:Shared)(v:MV)(st':MS)(Q:Value→Shared→Prop):Prop:=
 ∀v' s' l',Now w F.h₀ F.L m X l' st' s'→Ext l l'→Same s s'→l'.VR v v'→Q v' s'
def bX(w:Wd)(d:Nat)(ev:Cx→Loc→MS→xpZ→MR):Prop:=
 ∀(F:Fm) (_:Sit w F) (_:Room F.A d) (m:Str→Option Value) (X:List (Addr×Obj)) (l:LS) (st:MS) (s:Shared) (zl:Loc) (e:xpZ) (v:MV) (st':MS),
  ev F.scope.names zl st e=some (v,st')→Now w F.h₀ F.L m X l st s→LocR F X l zl m→
  ∀(Q:Value→Shared→Prop) (E:Value→Shared→Prop),Goes w F m X l s v st' Q→wpAny (M w) F.A (eval e F.env) Q E s
def nx(w:Wd)(d:Nat)(tst:Cx→Loc→MS→xpZ→Option (Bool×MS)):Prop:=
 ∀(F:Fm) (_:Sit w F) (_:Room F.A d) (m:Str→Option Value) (X:List (Addr×Obj)) (l:LS) (st:MS) (s:Shared) (zl:Loc) (e:xpZ) (b:Bool) (st':MS),
  tst F.scope.names zl st e=some (b,st')→Now w F.h₀ F.L m X l st s→LocR F X l zl m→
  ∀(Q:Bool→Shared→Prop) (E:Value→Shared→Prop),(∀s' l',Now w F.h₀ F.L m X l' st' s'→Ext l l'→Same s s'→Q b s')→wpAny (M w) F.A (isTrue e F.env (eval e F.env)) Q E s
theorem Now.toks{w:Wd}{h₀:Heap}{L:Addr}{m:Str→Option Value}{X:List (Addr×Obj)}{l:LS}{st:MS}{s:Shared}(n:Now w h₀ L m X l st s)(t:Nat):Now w h₀ L m X l st {s with toks:=t}:=⟨n.F,n.N,n.H,n.ap,n.sm,n.bq,n.oq⟩
theorem pO{K:Frag}{x:Str}{a:Addr}(h:GG K x mD =some a):nsIn K mainGlobals x=some (some (.ref a)):=by
 obtain⟨o,h1,h⟩:=bV h;obtain⟨v,h2,h⟩:=bV h;subst h2
 cases v <;>first|exact aF h|exact oiZ h ▸h1
theorem w6{K:Frag}{x:Str}{i:Int}(h:GG K x lz =some i):∃t,nsIn K mainGlobals x=some (some (.int i t)):=by
 obtain⟨o,h1,h⟩:=bV h;obtain⟨v,h2,h⟩:=bV h;subst h2
 cases v <;>first|exact aF h|exact⟨_,oiZ h ▸h1⟩
theorem d2{α:Type}{c:Nat}{v:α}:∀{l:List (Nat×α)},dS c l=some v→(c,v) ∈ l
 |[],e=>by cases e
 |p::r,e=>by
  unfold dS at e;split at e
  ·rename_i q;cases e;have:=ebZ q;subst this;exact .head _
  ·exact .tail _ (d2 e)
theorem hY{α:Type}{x:Str}{v:α}:∀{l:List (Str×α)},c7 x l=some v→(x,v) ∈ l
 |[],e=>by cases e
 |p::r,e=>by
  rw [dB]at e;split at e
  ·rename_i q;cases e;have:=sq_iff.mp q;subst this;exact .head _
  ·exact .tail _ (hY e)
theorem pP{P:Params}{c:Nat}{x:Str}(h:((dS c flds).bind (c7 x)).isSome=true):si (Kf P) c=true∧sh (Kf P) c x=true:=by
 obtain⟨u,hu⟩:=Option.isSome_iff_exists.mp h;obtain⟨xs,h1,h2⟩:=Option.bind_eq_some_iff.mp hu;have z:=ykZ.mp (w4 P) _ (d2 h1);obtain⟨a,b⟩:=abZ z;exact⟨a,ykZ.mp b _ (hY h2)⟩
theorem VR.handed{as:List Addr}{ks:List (Bool×Int)}{im:List (Addr×Obj)}{v:MV}{w:Value}(h:VR as ks im v w):handedIn w=true:=by cases h <;>first|rfl|assumption
theorem gF(x y:Str)(t:Tok):(Value.str x t).isStr y=sq x y:=by
 show (x==y)=sq x y
 cases q:sq x y with
 |true=>rw [sq_iff.mp q];simp
 |false=>exact bfZ (sq_false.mp q)
theorem Ents.get{P:Params}{as:List Addr}{ks:List (Bool×Int)}{im:List (Addr×Obj)}{x:Str}{v:MV}{es:List (Str×MV)}{ds:List DictEntry}(h:Ents P as ks im es ds)(e:c7 x es=some v):∃w,getL x ds=some (some w)∧VR as ks im v w:=by
 induction h with
 |nil=>exact aF e
 |@cons y u w t es ds h hs ih=>
  rw [dB]at e;unfold getL;rw [List.find?_cons,gF]
  cases q:sq y x with
  |true=>
   rw [q]at e;exact⟨w,rfl,oiZ e ▸h⟩
  |false=>
   rw [q]at e;obtain⟨w,h1,h2⟩:=ih e;refine⟨w,?_,h2⟩;unfold getL at h1;split at h1
   ·rename_i e' he';rw [he'];exact h1
   ·split at h1
    ·exact aF h1
    ·exact nomatch (oiZ h1)
theorem Ents.none{P:Params}{as:List Addr}{ks:List (Bool×Int)}{im:List (Addr×Obj)}{x:Str}{es:List (Str×MV)}{ds:List DictEntry}(h:Ents P as ks im es ds)(e:c7 x es=none):getL x ds=some none:=by
 induction h with
 |nil=>rfl
 |@cons y u w t es ds h hs ih=>
  rw [dB]at e
  cases q:sq y x with
  |true=>
   rw [q]at e;exact nomatch e
  |false=>
   rw [q]at e;have z:=ih e;unfold getL at z ⊢;rw [List.find?_cons,gF,q,List.any_cons];split at z
   ·exact nomatch (oiZ z)
   ·rename_i hn;rw [hn];split at z
    ·exact aF z
    ·rename_i hr;exact if_neg hr
section
variable{l:LS}{st:MS}{s:Shared}{E:Value→Shared→Prop}
theorem cq{cx:Cx}{x:Str}(h:bC cx x=some false):cx.lookup x=some .globalImplicit:=by
 unfold bC at h;rw [cP]at h;revert h
 cases cx.lookup x with
 |none=>intro h;cases h
 |some k=>cases k <;>intro h <;>first|rfl|cases h
theorem Sit.nodbg(S:Sit w F){x:Str}{k:NameKind}(h:F.scope.names.lookup x=some k):(x==("__debug__":Str))=false:=by
 refine bfZ fun e=>?_
 rw [e,S.dbg]at h;cases h
theorem Sit.nocd(S:Sit w F){x:Str}{k:NameKind}(h:F.scope.names.lookup x=some k):(x==("__classdict__":Str))=false:=by
 refine bfZ fun e=>?_
 rw [e,S.cdc]at h;cases h
theorem iV(S:Sit w F){x:Str}{pos:Pos}{v:MV}(hv:zl.lookup x=some v)(hi:bC F.scope.names x=some true)(n:Now w F.h₀ F.L m X l st s)(hl:LocR F X l zl m)
  (h:Goes w F m X l s v st Q):wpAny (M w) F.A (eval (.Name x pos) F.env) Q E s:=by
 obtain⟨v',h1,h2⟩:=hl x v hv hi;have g:=h v' s l n Ext.rfl' Same.rfl' h1;rcases h2 with⟨hx,hm⟩|⟨hx|hx,c,o,hc,hX,ho⟩
 ·exact nameX_L n.F hm g S.kind hx (S.nodbg hx)
 ·exact nameX_C n.N hc (mrZ _ (mrZ _ hX)) ho g S.kind hx (S.nodbg hx)
 ·exact nameX_F n.N hc (mrZ _ (mrZ _ hX)) ho g S.kind hx (S.nodbg hx) (S.nocd hx)
theorem gt(S:Sit w F){x:Str}{pos:Pos}{v:MV}(hx:F.scope.names.lookup x=some .globalImplicit)(hv:(x,v) ∈ gtab)(n:Now w F.h₀ F.L m X l st s)
  (h:Goes w F m X l s v st Q):wpAny (M w) F.A (eval (.Name x pos) F.env) Q E s:=by
 have z:GH (Kf w.params) x v=true:=ykZ.mp (pN w.params) _ hv
 cases v with
 |int i=>
  obtain⟨t,e⟩:=w6 (of_decide_eq_true z);exact nameX_K n.F S.K (topRead_of S.T) e (h _ s l n Ext.rfl' Same.rfl' (.int _ _)) S.kind hx (S.nodbg hx)
 |top a=>exact nameX_K n.F S.K (topRead_of S.T) (pO (of_decide_eq_true z)) (h _ s l n Ext.rfl' Same.rfl' (.top _)) S.kind hx (S.nodbg hx)
 |_=>exact cM z
theorem LS.as_get{l:LS}{r:Nat}{a:Addr}{o:Obj}(h:l.RL[r]? =some (a,o)):l.as[r]? =some a:=by
 show (l.RL.map (·.1))[r]? =_
 rw [ydZ,h];rfl
theorem Now.at0(n:Now w F.h₀ F.L m X l st s){r:Nat}{mo:MO}(h1:aH st.H r=some mo):∃a o,l.RL[r]? =some (a,o)∧OR w.params l.as l.ks l.im mo o:=by
 rw [aJ]at h1;obtain⟨p,hp,ho⟩:=n.H.obj.get h1;exact⟨p.1,p.2,hp,ho⟩
inductive Z5(w:Wd)(l:LS)(s:Shared)(r:Nat)(mo:MO)(v':Value):Prop
 |mk (a:Addr) (o:Obj) (e:v'=.ref a) (h1:l.RL[r]? =some (a,o)) (h2:s.heap.get? a=some o) (h3:(a==sysModules)=false) (h4:OR w.params l.as l.ks l.im mo o):Z5 w l s r mo v'
theorem Now.at(n:Now w F.h₀ F.L m X l st s){r:Nat}{mo:MO}{v':Value}(hv:l.VR (.ref r) v')(h1:aH st.H r=some mo):
  Z5 w l s r mo v':=by
 obtain⟨a,o,hp,ho⟩:=n.at0 h1;obtain⟨b,rfl,hb⟩:=hv.refI;obtain rfl:=oiZ ((LS.as_get hp).symm.trans hb);have m1:=moZ hp;exact⟨_,_,rfl,hp,(n.N _ (mlZ _ m1)).1,n.sm _ m1,ho⟩
inductive AV(w:Wd)(l:LS)(s:Shared)(r c d c':Nat)(es:List (Str×MV))(v':Value):Prop
 |mk (ax adx:Addr) (ds:List DictEntry) (ep:Nat) (e:v'=.ref ax) (h1:l.as[r]? =some ax) (h2:l.as[d]? =some adx) (h3:InstAt s.heap ax (instObj c adx) c (some (dictOf ds ep))) (h4:Ents w.params l.as l.ks l.im es ds) (h5:∀p ∈ es,((dS c' flds).bind (c7 p.1)).isSome=true) (h6:es.length≤900):AV w l s r c d c' es v'
theorem Now.inst(n:Now w F.h₀ F.L m X l st s){r c d c':Nat}{es:List (Str×MV)}{v':Value}(hv:l.VR (.ref r) v')(h1:aH st.H r=some (.inst c d))(h2:aH st.H d=some (.idict c' es)):
  AV w l s r c d c' es v':=by
 obtain⟨ax,o1,rfl,g1,_,_,O1⟩:=n.at hv h1;obtain⟨adx,rfl,e2⟩:=O1.instI;obtain⟨a2,o2,g2,O2⟩:=n.at0 h2;obtain⟨ds,ep,rfl,hE,hf,hl⟩:=O2.idictI;obtain rfl:=oiZ ((LS.as_get g2).symm.trans e2);exact⟨_,_,_,_,rfl,LS.as_get g1,e2,InstAt.of_news n.N (mlZ _ (moZ g1)) (mlZ _ (moZ g2)),hE,hf,hl⟩
theorem sx(S:Sit w F)(n:Now w F.h₀ F.L m X l st s){a v:MV}{o:Value}{x:Str}{expr:Bool}(ha:l.VR a o)(he:ll st a x=some v)(h:Goes w F m X l s v st Q):wpAny (M w) F.A (getAttr o x expr) Q E s:=by
 refine (?_:Al (ll st a x) fun v=>Goes w F m X l s v st Q→wpAny (M w) F.A (getAttr o x expr) Q E s) v he h
 refine Al.ob fun r hr=>Al.ob fun ob h1=>Al.inA fun c d es ho h2 v he h=>?_
 subst ho;obtain⟨ax,adx,ds,ep,rfl,_,_,I,hE,hf,_⟩:=n.inst (cf hr ▸ha) h1 h2;obtain⟨v',g1,g2⟩:=hE.get he;obtain⟨_,z⟩:=pP (P:=w.params) (hf _ (hY he));have z1:=abZ (abZ z).1;have z2:=abZ z1.1;exact get_own n.F S.K I z2.1 z2.2 (of_decide_eq_true z1.2) rfl g1 g2.handed (h v' _ l (n.toks _) Ext.rfl' Same.mk' g2)
inductive Ps(l:LS)(s:Shared)(r:Nat)(vs:List MV)(v':Value):Prop
 |mk (a:Addr) (ws:List Value) (ep:Nat) (e:v'=.ref a) (h1:l.RL[r]? =some (a,listOf ws.toArray ep)) (h2:s.heap.IsList a ws.toArray) (h3:l.VRs vs ws) (h4:vs.length≤1048576):Ps l s r vs v'
theorem Now.lst(n:Now w F.h₀ F.L m X l st s){r:Nat}{vs:List MV}{v':Value}(hv:l.VR (.ref r) v')(h1:aH st.H r=some (.list vs)):
  Ps l s r vs v':=by
 rw [aJ]at h1;obtain⟨p,hp,ho⟩:=n.H.obj.get h1;obtain⟨a1,o1⟩:=p
 have e1:l.as[r]? =some a1:=by show (l.RL.map (·.1))[r]? =_;rw [ydZ,hp];rfl
 cases hv with
 |ref hr=>
  have hra:=e1.symm.trans hr;cases hra;have m1:(a1,o1) ∈ l.RL:=moZ hp;have hg:=(n.N _ (mlZ _ m1)).1;generalize hO:(a1,o1).2=O1 at ho
  cases ho with
  |list h hl=>cases hO;exact⟨_,_,_,rfl,hp,⟨_,hg,rfl,_,rfl⟩,h,hl⟩
inductive Pt(l:LS)(s:Shared)(vs:List MV)(v':Value):Prop
 |mk (a:Addr) (ws:List Value) (e:v'=.ref a) (h1:(a,ay ws) ∈ l.im) (h2:IsTup s.heap a ws.toArray) (h3:l.VRs vs ws) (h4:vs.length≤1048576):Pt l s vs v'
theorem Now.tupl(n:Now w F.h₀ F.L m X l st s){vs:List MV}{v':Value}(hv:l.VR (.tup vs) v'):
  Pt l s vs v':=by
 cases hv with
 |tup h hs hl=>exact⟨_,_,rfl,h,⟨_,(n.N _ (mrZ _ (mlZ _ h))).1,rfl,_,rfl⟩,hs,hl⟩
theorem mH{vs:List MV}{k:Int}{v:MV}(h:JU vs k=some v)(hl:vs.length≤1048576):∃j,seqIndex? k vs.length=some j∧vs[j]? =some v∧ -(2 ^ 63)≤k∧k < 2 ^ 63∧(0≤k→k.toNat=j)∧(k < 0→(k+vs.length).toNat=j∧ -(vs.length:Int)≤k):=by
 unfold JU at h
 cases k with
 |ofNat n=>
  simp only at h;rw [aJ]at h;obtain⟨hn,_⟩:=ybZ.mp h;have e:Int.ofNat n=(n:Int):=rfl;rw [e]
  refine⟨n,?_,h,by lia,by lia,fun _=>rfl,fun q=>absurd q (by lia)⟩
  unfold seqIndex?
  have:¬((n:Int) < 0):=by lia
  simp only [this,if_false]
  rw [if_pos (by simp only [Bool.and_eq_true,decide_eq_true_eq];lia)]
  simp
 |negSucc n=>
  simp only at h;split at h
  ·rename_i hb;have hb':n+1≤vs.length:=lbZ hb;rw [aJ]at h
   have hi:(Int.negSucc n)+(vs.length:Int)=((vs.length - (n+1):Nat):Int):=by lia
   refine⟨vs.length - (n+1),?_,h,by lia,by lia,fun q=>absurd q (by lia),fun _=>⟨by rw [hi];rfl,by lia⟩⟩
   unfold seqIndex?
   have:Int.negSucc n < 0:=by lia
   simp only [this,if_true]
   rw [hi,if_pos (by simp only [Bool.and_eq_true,decide_eq_true_eq];lia)]
   simp
  ·cases h
noncomputable def cQ:xpZ→Bool
 | .Slice .. =>false
 |_=>true
theorem aZ{sl:xpZ}(h:cQ sl=true)(o i:Value):subscripted sl false o i=operate [o,i] (getItem o i):=by
 cases sl <;>first|rfl|cases h
theorem sy(n:Now w F.h₀ F.L m X l st s){value sl:xpZ}(hsl:cQ sl=true){r:Nat}{vs:List MV}{v':Value}{k:Int}{u:Tok}{v:MV}(hv:l.VR (.ref r) v')(h1:aH st.H r=some (.list vs))(hk:JU vs k=some v)
  (h:Goes w F m X l s v st Q):wpAny (M w) F.A (subscriptTail value sl v' (.int k u)) Q E s:=by
 obtain⟨a,ws,ep,rfl,_,hL,hR,hl⟩:=n.lst hv h1;obtain⟨j,hj,hx,lo,hi,h0,hn⟩:=mH hk hl;obtain⟨x,hx',hx2⟩:=hR.get hx;have g:=h x s l n Ext.rfl' Same.rfl' hx2;refine tail_any hL.typeIs slot_list_getitem.lookup ?_ (aZ hsl _ _)
 by_cases hz:0≤k
 ·exact wpAny_getItem_list hL hz hi (by rw [h0 hz];simpa using hx') g
 ·obtain⟨e1,e2⟩:=hn (by lia)
  have zr:=hR.length
  exact wpAny_getItem_list_neg hL (by lia) (by simpa [←zr]using e2) lo (by simp only [ymZ,←zr,e1];simpa using hx') g
theorem sz(n:Now w F.h₀ F.L m X l st s){value sl:xpZ}(hsl:cQ sl=true){vs:List MV}{v':Value}{k:Int}{u:Tok}{v:MV}(hv:l.VR (.tup vs) v')(hk:JU vs k=some v)
  (h:Goes w F m X l s v st Q):wpAny (M w) F.A (subscriptTail value sl v' (.int k u)) Q E s:=by
 obtain⟨a,ws,rfl,_,hT,hR,hl⟩:=n.tupl hv;obtain⟨j,hj,hx,lo,hi,h0,hn⟩:=mH hk hl;obtain⟨x,hx',hx2⟩:=hR.get hx;have g:=h x s l n Ext.rfl' Same.rfl' hx2
 exact item_tupleT hT lo hi (by rw [←hR.length];exact hj) hx' g (aZ hsl _ _)
end
theorem bp{α:Type}{a:α}:∀{l:List α} (h:l.Nodup) {i j:Nat} (e1:l[i]? =some a) (e2:l[j]? =some a),i=j
 |[],_,i,j,e1,_=>by simp at e1
 |x::r,h,i,j,e1,e2=>by
  obtain⟨h1,h2⟩:=List.nodup_cons.mp h
  cases i with
  |zero=>
   cases j with
   |zero=>rfl
   |succ j=>simp at e1 e2;subst e1;exact absurd (moZ e2) h1
  |succ i=>
   cases j with
   |zero=>simp at e1 e2;subst e2;exact absurd (moZ e1) h1
   |succ j=>simp at e1 e2;rw [bp h2 e1 e2]
theorem kD{a b:Int}:PySem.W.Z.eqB a b=(a==b):=by
 cases h:PySem.W.Z.eqB a b with
 |true=>rw [(PySem.W.Z.eqB_iff _ _).mp h];simp
 |false=>
  symm;refine bfZ fun e=>?_
  rw [(PySem.W.Z.eqB_iff _ _).mpr e]at h;cases h
theorem ltB_eq{a b:Int}:PySem.W.Z.ltB a b=decide (a < b):=by
 cases h:PySem.W.Z.ltB a b with
 |true=>rw [decide_eq_true ((PySem.W.Z.ltB_iff _ _).mp h)]
 |false=>
  symm;refine decide_eq_false fun e=>?_
  rw [(PySem.W.Z.ltB_iff _ _).mpr e]at h;cases h
theorem leB_eq{a b:Int}:PySem.W.Z.leB a b=decide (a≤b):=by
 cases h:PySem.W.Z.leB a b with
 |true=>rw [decide_eq_true ((PySem.W.Z.leB_iff _ _).mp h)]
 |false=>
  symm;refine decide_eq_false fun e=>?_
  rw [(PySem.W.Z.leB_iff _ _).mpr e]at h;cases h
theorem tA(x y:Str):sq x y=(x==y):=by
 cases q:sq x y with
 |true=>rw [sq_iff.mp q];simp
 |false=>exact (bfZ (sq_false.mp q)).symm
theorem nz{p q:Bool}:(p && q)=an p q:=by cases p <;>rfl
theorem w7{a b:Int}:PySem.W.Z.eqB a b=decide (a=b):=kD
inductive TQ(n:Nat):List MV→List MV→Bool→Prop
 |nil:TQ n [] [] true
 |nc (y:MV) (ys:List MV):TQ n [] (y::ys) false
 |cn (x:MV) (xs:List MV):TQ n (x::xs) [] false
 |cc {x y:MV} {xs ys:List MV} {p q:Bool} (h:ec n x y=some p) (hs:ec n (.tup xs) (.tup ys)=some q):TQ n (x::xs) (y::ys) (an p q)
theorem tupI{n:Nat}{xs ys:List MV}{p:Bool}(e:ec (n+1) (.tup xs) (.tup ys)=some p):TQ n xs ys p:=by
 cases xs with
 |nil=>cases ys with
  |nil=>exact oiZ e ▸ .nil
  |cons y ys=>exact oiZ e ▸ .nc y ys
 |cons x xs=>cases ys with
  |nil=>exact oiZ e ▸ .cn x xs
  |cons y ys=>
   obtain⟨p,h1,e⟩:=bV e;obtain⟨q,h2,e⟩:=bV e;exact oiZ e ▸ .cc h1 h2
inductive VQ(n:Nat):MV→MV→Bool→Prop
 |none:VQ n .none .none true
 |bool (x y:Bool):VQ n (.bool x) (.bool y) (match x with|true=>y|false=> !y)
 |str (x y:Str):VQ n (.str x) (.str y) (sq x y)
 |num {x y:MV} {b:Bool} (h1:vz x=true) (h2:vz y=true) (e:ec (n+1) x y=some b):VQ n x y b
 |tup {xs ys:List MV} {b:Bool} (e:ec (n+1) (.tup xs) (.tup ys)=some b):VQ n (.tup xs) (.tup ys) b
theorem w8{n:Nat}{a b:MV}{p:Bool}(e:ec (n+1) a b=some p):VQ n a b p:=by
 cases a with
 |none=>exact (wX (fU e).1).symm ▸oiZ (fU e).2 ▸ .none
 |bool x=>
  obtain⟨y,h,e⟩:=bV e;exact sZ h ▸oiZ e ▸ .bool x y
 |str x=>
  obtain⟨y,h,e⟩:=bV e;exact P6 h ▸oiZ e ▸ .str x y
 |int x=>cases b <;>first|exact .num rfl rfl e|exact aF e
 |kd t=>cases b <;>first|exact .num rfl rfl e|exact aF e
 |tup xs=>cases b <;>first|exact .tup e|exact aF e
 |_=>exact aF e
theorem ey{ks:List (Bool×Int)}(hn:KN ks)(hb:KB ks){x y:MV}{i j:Int}(h1:bn ks x=some i)(h2:bn ks y=some j){n:Nat}{b:Bool}(e:ec n x y=some b):b=decide (i=j):=by
 have lo:∀{t:Nat} {k i:Int} {b:Bool},bQ ks t=some k→gd (PySem.W.Z.ltB i 25) (some false)=some b→b=decide (i=k):=fun h e=>
  oiZ (fU e).2 ▸(decide_eq_false (Int.ne_of_lt (Int.lt_of_lt_of_le ((PySem.W.Z.ltB_iff _ _).mp (fU e).1) (hb _ _ h)))).symm
 cases n with
 |zero=>exact aF e
 |succ n=>
  cases x with
  |int x=>
   obtain rfl:=oiZ h1
   cases y with
   |int y=>exact oiZ h2 ▸oiZ e ▸w7
   |kd t=>exact lo h2 e
   |_=>exact aF h2
  |kd t=>
   cases y with
   |int y=>exact oiZ h2 ▸(lo h1 e).trans (decide_eq_decide.mpr eq_comm)
   |kd u=>
    obtain rfl:=oiZ e
    refine Bool.eq_iff_iff.mpr ⟨fun q=>decide_eq_true ?_,fun q=>?_⟩
    ·exact oiZ (h1.symm.trans (ebZ q ▸h2))
    ·exact hn _ _ _ h1 (of_decide_eq_true q ▸h2) ▸Nat.beq_refl t
   |_=>exact aF h2
  |_=>exact aF h1
theorem VR.numI{as:List Addr}{ks:List (Bool×Int)}{im:List (Addr×Obj)}{x:MV}{v:Value}(hi:vz x=true)(h:VR as ks im x v):∃i t,v=.int i t∧bn ks x=some i:=by
 cases x with
 |int i=>obtain⟨t,rfl⟩:=h.intI;exact⟨i,t,rfl,rfl⟩
 |kd n=>obtain⟨k,t,rfl,q⟩:=h.kdI;exact⟨k,t,rfl,q⟩
 |_=>exact cM hi
section
variable{l:LS}{st:MS}{s:Shared}{E:Value→Shared→Prop}
theorem Now.imfun(n:Now w F.h₀ F.L m X l st s){a:Addr}{ws ws':List Value}(h1:(a,ay ws) ∈ l.im)(h2:(a,ay ws') ∈ l.im):ws=ws':=by
 have e1:=(n.N _ (mrZ _ (mlZ _ h1))).1;have e2:=(n.N _ (mrZ _ (mlZ _ h2))).1;have e:=e1.symm.trans e2
 have e':=congrArg (fun o:Option Obj=>o.map (·.data)) e
 simp only [Option.map_some,Option.some.injEq]at e'
 have:ws.toArray=ws'.toArray:=by injection e'
 simpa using congrArg Array.toList this
theorem Now.kb(n:Now w F.h₀ F.L m X l st s){t:Nat}{k:Int}(h:bQ l.ks t=some k):(25:Int)≤k:=n.H.kb _ _ h
theorem iW(n:Now w F.h₀ F.L m X l st s):∀(k:Nat),(∀x y v b,l.VR x v→l.VR y v→ec k x y=some b→b=true)∧(∀xs ys vs b,l.VRs xs vs→l.VRs ys vs→ec k (.tup xs) (.tup ys)=some b→b=true):=by
 intro k
 induction k with
 |zero=>exact⟨fun _ _ _ _ _ _ e=>aF e,fun _ _ _ _ _ _ e=>aF e⟩
 |succ k ih=>
  have T:∀xs ys vs b,l.VRs xs vs→l.VRs ys vs→ec (k+1) (.tup xs) (.tup ys)=some b→b=true:=by
   intro xs ys vs b h1 h2 e
   cases tupI e with
   |nil=>rfl
   |nc y ys=>exact nomatch h1.nilI ▸h2
   |cn x xs=>exact nomatch h2.nilI ▸h1
   |cc e1 e2=>
    obtain⟨v,vs,rfl,a1,r1⟩:=h1.consI;obtain⟨_,_,q,a2,r2⟩:=h2.consI;injection q with q1 q2;rw [ih.1 _ _ _ _ a1 (q1 ▸a2) e1,ih.2 _ _ _ _ r1 (q2 ▸r2) e2];rfl
  refine⟨fun x y v b h1 h2 e=>?_,T⟩
  have T2:∀{xs ys:List MV},l.VR (.tup xs) v→l.VR (.tup ys) v→ec (k+1) (.tup xs) (.tup ys)=some b→b=true:=fun h1 h2 e=>by
   obtain⟨a,ws,rfl,i1,s1,_⟩:=h1.tupI;obtain⟨a2,Vf,q,i2,s2,_⟩:=h2.tupI;injection q with q;exact T _ _ _ _ s1 (n.imfun i1 (q ▸i2) ▸s2) e
  cases w8 e with
  |none=>rfl
  |bool x y=>
   have:=h1.boolI.symm.trans h2.boolI;injection this with q
   subst q;cases x <;>rfl
  |str x y=>
   obtain⟨t,rfl⟩:=h1.strI;obtain⟨_,q⟩:=h2.strI;injection q with q;exact sq_iff.mpr q
  |num i1 i2 e=>
   obtain⟨i,t,rfl,k1⟩:=h1.numI i1;obtain⟨j,u,q,k2⟩:=h2.numI i2;injection q with q;rw [ey n.H.kn n.H.kb k1 k2 e];exact decide_eq_true q
  |tup e=>exact T2 h1 h2 e
noncomputable def SeqE(A:Around)(s:Shared)(vs ws:List Value)(b:Bool):Prop:=∃e:Nat→Bool,(∀j (h1:j < vs.length) (h2:j < ws.length),EqAt A s vs[j] ws[j] (e j))∧b=((List.range (min vs.length ws.length)).all e && vs.length==ws.length)
theorem SeqE.cons{A:Around}{v w:Value}{vs ws:List Value}{p q:Bool}(h:EqAt A s v w p)(hs:SeqE A s vs ws q):SeqE A s (v::vs) (w::ws) (p && q):=by
 obtain⟨e,h1,h2⟩:=hs
 refine⟨fun j=>match j with|0=>p|j+1=>e j,fun j a b=>?_,?_⟩
 ·cases j with
  |zero=>exact h
  |succ j=>exact h1 j (by simpa using a) (by simpa using b)
 ·have:min (v::vs).length (w::ws).length=min vs.length ws.length+1:=by rw [List.length_cons,List.length_cons,Nat.add_min_add_right]
  rw [this,List.range_succ_eq_map,List.all_cons,List.all_map];subst h2;cases p
  ·simp
  ·simp only [Bool.true_and,List.length_cons]
   congr 1
   cases hq:vs.length==ws.length <;>simp_all
theorem SeqE.tuples{A:Around}{a b:Addr}{vs ws:List Value}{k:Bool}(hl:IsTup s.heap a vs.toArray)(hb:IsTup s.heap b ws.toArray)(hu:A.units < cLine)(h:SeqE A.in1 s vs ws k):RcAt A s (.ref a) (.ref b) k:=by
 obtain⟨e,h1,rfl⟩:=h
 have:=RcAt.tuples (A:=A) (e:=e) hl hb hu (fun j x y=>by simpa using h1 j (by simpa using x) (by simpa using y))
 simpa using this
theorem SeqE.lists{A:Around}{a b:Addr}{vs ws:List Value}{k:Bool}(hl:s.heap.IsList a vs.toArray)(hb:s.heap.IsList b ws.toArray)(hu:A.units < cLine)(h:SeqE A.in1 s vs ws k):RcAt A s (.ref a) (.ref b) k:=by
 obtain⟨e,h1,rfl⟩:=h
 by_cases hs:vs.length=ws.length
 ·have:=RcAt.lists (A:=A) (e:=e) hl hb (by simpa using hs) hu (fun j x y=>by simpa using h1 j (by simpa using x) (by simpa using y))
  simpa [hs]using this
 ·have:=RcAt.lists_lengths (A:=A) hl hb (by simpa using hs) hu
  have e2:(vs.length==ws.length)=false:=by simpa using hs
  rw [e2,Bool.and_false];exact this
theorem SeqE.ends{A:Around}{vs ws:List Value}{b:Bool}(h:min vs.length ws.length=0)(hb:b=(vs.length==ws.length)):SeqE A s vs ws b:=
 ⟨fun _=>true,fun j a c=>absurd (Nat.lt_min.mpr ⟨a,c⟩) (by rw [h];exact Nat.not_lt_zero j),by rw [h,hb];rfl⟩
theorem kE(n:Now w F.h₀ F.L m X l st s):∀(k:Nat) (A:Around),A.units+k < cLine→
  (∀x y v u b,l.VR x v→l.VR y u→ec k x y=some b→RcAt A s v u b∧EqAt A s v u b)∧(∀xs ys vs us b,l.VRs xs vs→l.VRs ys us→ec k (.tup xs) (.tup ys)=some b→SeqE A s vs us b):=by
 intro k
 induction k with
 |zero=>exact fun A _=>⟨fun _ _ _ _ _ _ _ e=>aF e,fun _ _ _ _ _ _ _ e=>aF e⟩
 |succ k ih=>
  intro A hA
  have T:∀(A:Around),A.units+k < cLine→∀xs ys vs us b,l.VRs xs vs→l.VRs ys us→ec (k+1) (.tup xs) (.tup ys)=some b→SeqE A s vs us b:=by
   intro A hA xs ys vs us b h1 h2 e
   cases tupI e with
   |nil=>
    obtain rfl:=h1.nilI;obtain rfl:=h2.nilI;exact .ends rfl rfl
   |nc y ys=>
    obtain⟨_,_,rfl,_,_⟩:=h2.consI;exact h1.nilI ▸ .ends (Nat.zero_min _) rfl
   |cn x xs=>
    obtain⟨_,_,rfl,_,_⟩:=h1.consI;exact h2.nilI ▸ .ends (Nat.min_zero _) rfl
   |cc e1 e2=>
    obtain⟨_,_,rfl,a1,r1⟩:=h1.consI;obtain⟨_,_,rfl,a2,r2⟩:=h2.consI;exact nz ▸SeqE.cons ((ih A hA).1 _ _ _ _ _ a1 a2 e1).2 ((ih A hA).2 _ _ _ _ _ r1 r2 e2)
  refine⟨fun x y v u b h1 h2 e=>?_,T A (Nat.lt_of_succ_lt hA)⟩
  have T2:∀{xs ys:List MV},l.VR (.tup xs) v→l.VR (.tup ys) u→ec (k+1) (.tup xs) (.tup ys)=some b→RcAt A s v u b∧EqAt A s v u b:=fun {xs ys} h1 h2 e=>by
   obtain⟨aa,w1,rfl,m1,t1,s1,_⟩:=n.tupl h1;obtain⟨ab,w2,rfl,m2,t2,s2,_⟩:=n.tupl h2
   have R:=(T A.in1 (by show A.units+1+k < cLine;lia) _ _ _ _ _ s1 s2 e).tuples t1 t2 (ltZ (Nat.le_add_right _ _) hA)
   refine⟨R,?_⟩
   by_cases hab:aa=ab
   ·subst hab;rw [(iW n (k+1)).1 _ _ _ _ h1 h2 e];exact .same _
   ·exact .of_refs hab R
  cases w8 e with
  |none=>obtain rfl:=h1.noneI;obtain rfl:=h2.noneI;exact⟨.none_none,.same _⟩
  |bool c d=>
   obtain rfl:=h1.boolI;obtain rfl:=h2.boolI
   cases c <;>cases d <;>exact⟨.bool_bool _ _,.bool_bool _ _⟩
  |str x y=>
   obtain⟨t,rfl⟩:=h1.strI;obtain⟨t',rfl⟩:=h2.strI;exact tA x y ▸⟨.str_str _ _ _ _,.str_str _ _ _ _⟩
  |num i1 i2 e=>
   obtain⟨i,t,rfl,k1⟩:=h1.numI i1;obtain⟨j,u,rfl,k2⟩:=h2.numI i2;rw [ey n.H.kn n.H.kb k1 k2 e];exact⟨.int_int _ _ _ _,.int_int _ _ _ _⟩
  |tup e=>exact T2 h1 h2 e
end
section
variable{l:LS}{st:MS}{s:Shared}{E:Value→Shared→Prop}
variable{im:List (Addr×Obj)}
theorem AW{K:Type}[DecidableEq K]{key:MV→Option K}{keys:List MV→Option (List K)}(h0:keys []=some [])(hc:∀x xs is,keys (x::xs)=some is→∃i r,key x=some i∧keys xs=some r∧is=i::r)
  (hk:∀x y i j n b,key x=some i→key y=some j→ec n x y=some b→b=decide (i=j)):∀n xs ys is js b,keys xs=some is→keys ys=some js→ec n (.tup xs) (.tup ys)=some b→b=decide (is=js):=by
 intro n
 induction n with
 |zero=>exact fun _ _ _ _ _ _ _ e=>aF e
 |succ n ih=>
  intro xs ys is js b h1 h2 e
  cases tupI e with
  |nil=>
   obtain rfl:=oiZ (h0.symm.trans h1);obtain rfl:=oiZ (h0.symm.trans h2);rfl
  |nc y ys=>
   obtain rfl:=oiZ (h0.symm.trans h1);obtain⟨i,r,_,_,rfl⟩:=hc _ _ _ h2;rfl
  |cn x xs=>
   obtain rfl:=oiZ (h0.symm.trans h2);obtain⟨i,r,_,_,rfl⟩:=hc _ _ _ h1;rfl
  |cc e1 e2=>
   obtain⟨i,r,a1,b1,rfl⟩:=hc _ _ _ h1;obtain⟨j,u,a2,b2,rfl⟩:=hc _ _ _ h2;rw [hk _ _ _ _ _ _ a1 a2 e1,ih _ _ _ _ _ b1 b2 e2,←nz,←Bool.decide_and]
   exact decide_eq_decide.mpr ⟨fun q=>q.1 ▸q.2 ▸rfl,fun q=>List.cons.inj q⟩
theorem tB{x:MV}{xs:List MV}{is:List Int}(h:cg ks (x::xs)=some is):∃i r,bn ks x=some i∧cg ks xs=some r∧is=i::r:=
 let ⟨i,a,h⟩:=bV h
 let ⟨r,b,h⟩:=bV h
 ⟨i,r,a,b,(oiZ h).symm⟩
theorem tC{x:MV}{xs:List MV}{is:List RK}(h:dz ks (x::xs)=some is):∃i r,dC ks x=some i∧dz ks xs=some r∧is=i::r:=
 let ⟨i,a,h⟩:=bV h
 let ⟨r,b,h⟩:=bV h
 ⟨i,r,a,b,(oiZ h).symm⟩
theorem oA{x:MV}{i:Int}{ys:List MV}(h:bn ks x=some i)(n:Nat):ec n x (.tup ys)=none∧ec n (.tup ys) x=none:=by
 cases n with
 |zero=>exact⟨rfl,rfl⟩
 |succ n=>cases x <;>first|exact aF h|exact⟨rfl,rfl⟩
theorem Pu(hn:KN ks)(hb:KB ks)(x y:MV)(i j:RK)(n:Nat)(b:Bool)(h1:dC ks x=some i)(h2:dC ks y=some j)(e:ec n x y=some b):b=decide (i=j):=by
 rcases gD h1 with⟨a,a1,rfl⟩|⟨xs,a,rfl,a1,rfl⟩ <;>rcases gD h2 with⟨c,c1,rfl⟩|⟨ys,c,rfl,c1,rfl⟩
 ·exact (ey hn hb a1 c1 e).trans (decide_eq_decide.mpr ⟨fun q=>q ▸rfl,Sum.inl.inj⟩)
 ·exact aF ((oA a1 n).1.symm.trans e)
 ·exact aF ((oA c1 n).2.symm.trans e)
 ·exact (AW (key:=bn ks) (keys:=cg ks) rfl (fun _ _ _=>tB) (fun _ _ _ _ _ _ p q e=>ey hn hb p q e) _ _ _ _ _ _ a1 c1 e).trans (decide_eq_decide.mpr ⟨fun q=>q ▸rfl,Sum.inr.inj⟩)
theorem pQ(hn:KN ks)(hb:KB ks){x y:MV}{i j:List RK}(h1:ee ks x=some i)(h2:ee ks y=some j){n:Nat}{b:Bool}(e:ec n x y=some b):b=decide (i=j):=by
 cases x <;>first|exact aF h1|skip
 cases y <;>first|exact aF h2|skip
 exact AW (key:=dC ks) (keys:=dz ks) rfl (fun _ _ _=>tC) (Pu hn hb) _ _ _ _ _ _ h1 h2 e
noncomputable def Found(as:List Addr)(ks:List (Bool×Int))(im:List (Addr×Obj))(o:Option MV)(x:Option Value):Prop:=match o,x with
 |none,none=>True
 |some v,some x=>VR as ks im v x
 |_,_=>False
theorem w9{k:MV}{p:MV×MV}{r:List (MV×MV)}{o:Option MV}(e:pB k (p::r)=some o):bP p.1 k=some true∧o=some p.2∨bP p.1 k=some false∧pB k r=some o:=by
 obtain⟨b,h,e⟩:=bV e
 cases b with
 |true=>exact .inl ⟨h,(oiZ e).symm⟩
 |false=>exact .inr ⟨h,e⟩
theorem KVs.look(hn:KN ks)(hb:KB ks){k:MV}{i:Int}(hk:bn ks k=some i):∀{es:List (MV×MV)} {zw:List (Int×Value)},KVs as ks im es zw→∀{o:Option MV},pB k es=some o→Found as ks im o (valueAt zw i):=by
 intro es zw h
 induction h with
 |nil=>exact fun e=>oiZ e ▸trivial
 |cons h1 hv hs ih=>
  intro o e;rcases w9 e with⟨q,rfl⟩|⟨q,e⟩
  ·have:=of_decide_eq_true (ey hn hb h1 hk q).symm;simp only [valueAt,List.find?_cons,decide_eq_true this];exact hv
  ·simp only [valueAt,List.find?_cons,←ey hn hb h1 hk q];exact ih e
theorem HVs.look(hn:KN ks)(hb:KB ks){k:MV}{i:List RK}(hk:ee ks k=some i):∀{es:List (MV×MV)} {xs:List (List RK×Addr×Value)},HVs as ks im es xs→∀{o:Option MV},pB k es=some o→Found as ks im o ((atKey xs i).map (·.2)):=by
 intro es xs h
 induction h with
 |nil=>exact fun e=>oiZ e ▸trivial
 |cons h1 ha hv hs ih=>
  intro o e;rcases w9 e with⟨q,rfl⟩|⟨q,e⟩
  ·have:=of_decide_eq_true (pQ hn hb h1 hk q).symm;simp only [atKey,List.find?_cons,decide_eq_true this];exact hv
  ·simp only [atKey,List.find?_cons,←pQ hn hb h1 hk q];exact ih e
end
theorem mI{a b:String}(h:a≠b):Value.type a≠Value.type b:=fun e=>h (by injection e)
theorem OR.notTup(w:Wd){P:Params}{as:List Addr}{ks:List (Bool×Int)}{im:List (Addr×Obj)}{o:MO}{b:Obj}(h:OR P as ks im o b):b.cls≠ .type "tuple":=by
 cases h with
 |list h hl=>exact mI (by decide)
 |inst h=>intro e;cases e
 |idict h hf hl=>exact mI (by decide)
 |ndict h hl ho=>obtain⟨_,_,hc,_⟩:=ho w.w;rw [hc.1];exact mI (by decide)
 |hdict h hl hc hd hds hn=>rw [hc.1];exact mI (by decide)
 |any h=>exact h
 |ktb=>intro e;cases e
section
variable{l:LS}{st:MS}{s:Shared}{E:Value→Shared→Prop}
theorem Now.lt(n:Now w F.h₀ F.L m X l st s){p:Addr×Obj}(h:p ∈ l.RL++(l.im++X)):p.1 < s.heap.objs.size:=Heap.lt_size (n.N p h).1
noncomputable def LS.add(l:LS)(a:Addr)(o:Obj):LS:=⟨l.RL++[(a,o)],l.im,l.ks⟩
def LS.addT(l:LS)(a:Addr)(ws:List Value):LS:=⟨l.RL,(a,ay ws)::l.im,l.ks⟩
theorem LS.as_add(l:LS)(a:Addr)(o:Obj):(l.add a o).as=l.as++[a]:=by simp [LS.as,LS.add]
theorem Ext.add(l:LS)(a:Addr)(o:Obj):Ext l (l.add a o):=⟨by rw [LS.as_add];exact paZ _ _,prZ,fun _ h=>h⟩
theorem Ext.addT(l:LS)(a:Addr)(ws:List Value):Ext l (l.addT a ws):=⟨prZ,prZ,fun _ h=>.tail _ h⟩
theorem Now.add(n:Now w F.h₀ F.L m X l st s){a:Addr}{o:Obj}{h':Heap}{t:Nat}{mo:MO}(F':Fr F.h₀ F.L h' m)(N':News F.h₀ F.L h' ((a,o)::(l.RL++(l.im++X))))(lt:∀p ∈ l.RL++(l.im++X),p.1 < a)(hs:(a==sysModules)=false)
  (hO:OR w.params (l.as++[a]) l.ks l.im mo o) (hp:mo.plain=true):Now w F.h₀ F.L m X (l.add a o) (psh st mo) {s with heap:=h',toks:=t} where
 F:=F'
 N:=fun p hp=>by
  refine N' p ?_
  show p ∈ (a,o)::(l.RL++(l.im++X))
  have hp':p ∈ (l.RL++[(a,o)])++(l.im++X):=hp;simp only [yoZ,yhZ,ygZ,or_false]at hp' ⊢;rcases hp' with (h|h)|h
  ·exact .inr (.inl h)
  ·exact .inl h
  ·exact .inr (.inr h)
 H:=by
  refine⟨?_,?_,n.H.imt,n.H.kn,n.H.kb,fun i hi=>?_⟩
  ·rw [LS.as_add]
   show ORs w.params (l.as++[a]) l.ks l.im (st.H++[mo]) (l.RL++[(a,o)])
   exact (n.H.obj.mono (paZ _ _) prZ fun _ h=>h).snoc hO
  ·rw [LS.as_add]
   refine List.nodup_append.mpr ⟨n.H.nd,by simp,fun x hx y hy=>?_⟩
   cases msZ hy;obtain⟨p,hp,rfl⟩:=List.mem_map.mp hx;exact Nat.ne_of_lt (lt p (mlZ _ hp))
  ·have hi':(st.H++[mo])[i]? =some .ktb:=hi
   have hlt:i < st.H.length:=by
    refine Nat.lt_of_not_le fun h=>?_
    rw [yfZ h]at hi'
    cases q:i - st.H.length with
    |zero=>rw [q]at hi';cases hi';cases hp
    |succ k=>rw [q]at hi';cases hi'
   rw [yaZ hlt]at hi';obtain⟨T,U⟩:=n.H.tab i hi'
   refine⟨?_,fun j h1 h2=>?_⟩
   ·rw [LS.as_add];have:=T.len
    refine T.mono (paZ _ _) (fun _ h=>h) ?_
    show ((l.RL++[(a,o)]).drop i).take 7=_
    rw [List.drop_append_of_le_length (by lia),List.take_append_of_le_length (by rw [List.length_drop];lia)]
   ·have:=U j h1 h2
    show (st.H++[mo])[i+j]? =_
    rw [yaZ (ybZ.mp this).1];exact this
 ap:=fun p hp q hq=>by
  have hq':q ∈ l.RL++[(a,o)]:=hq;rcases maZ hq' with h|h
  ·exact n.ap p hp q h
  ·cases msZ h;exact Nat.ne_of_lt (lt p (mrZ _ (mrZ _ hp)))
 sm:=fun q hq=>by
  have hq':q ∈ l.RL++[(a,o)]:=hq;rcases maZ hq' with h|h
  ·exact n.sm q h
  ·cases msZ h;exact hs
 bq:=fun i ob h1 h2=>by
  obtain⟨g1,g2⟩:=n.bq i ob h1 h2;refine⟨?_,?_⟩
  ·show (st.H++[mo])[i]? =_
   rw [yaZ (ybZ.mp g1).1];exact g1
  ·show Fits _ (l.RL++[(a,o)])[i]?
   rw [yaZ g2.lt];exact g2
 oq:=n.oq
theorem Now.pushes(n:Now w F.h₀ F.L m X l st s)(o:Obj)(hf:o.isFreed=false):Fr F.h₀ F.L (s.heap.push o) m∧News F.h₀ F.L (s.heap.push o) ((s.heap.objs.size,o)::(l.RL++(l.im++X))):=by
 have F':Fr F.h₀ F.L (s.heap.push o) m:=⟨n.F.ns.push o,fun b x e=>Heap.get?_push_of_some o (n.F.keep b x e),n.F.above⟩
 refine⟨F',fun p hp=>?_⟩
 rcases mcZ hp with rfl|hp
 ·refine⟨Heap.get?_push_size _ hf,Nat.ne_of_gt n.F.ns.lt,?_⟩
  cases q:F.h₀.get? s.heap.objs.size with
  |none=>rfl
  |some x=>exact absurd (llZ (llZ (Heap.lt_size q) n.F.above) (Nat.le_of_lt n.F.ns.lt)) (Nat.lt_irrefl _)
 ·obtain⟨a,b,c⟩:=n.N p hp;exact⟨Heap.get?_push_of_some o a,b,c⟩
theorem Now.push(n:Now w F.h₀ F.L m X l st s)(S:Sit w F){o:Obj}{mo:MO}(hf:o.isFreed=false)(hO:OR w.params (l.as++[s.heap.objs.size]) l.ks l.im mo o)(hp:mo.plain=true:=by rfl){t:Nat}:
  Now w F.h₀ F.L m X (l.add s.heap.objs.size o) (psh st mo) {s with heap:=s.heap.push o,toks:=t}:=
 n.add (n.pushes o hf).1 (n.pushes o hf).2 (fun p hp=>n.lt hp) (n.F.notModules (modules_low S.T.nolimit)) hO hp
theorem Now.pushT(n:Now w F.h₀ F.L m X l st s)(ws:List Value){t:Nat}:Now w F.h₀ F.L m X (l.addT s.heap.objs.size ws) st {s with heap:=s.heap.push (ay ws),toks:=t} where
 F:=(n.pushes _ rfl).1
 N:=fun p hp=>by
  refine (n.pushes (ay ws) rfl).2 p ?_;have hp':p ∈ l.RL++((s.heap.objs.size,ay ws)::(l.im++X)):=hp;simp only [yoZ,yhZ]at hp' ⊢;rcases hp' with h|h|h
  ·exact .inr (.inl h)
  ·exact .inl h
  ·exact .inr (.inr h)
 H:=⟨n.H.obj.mono prZ prZ fun _ h=>.tail _ h,n.H.nd,fun p hp=>by
  rcases mcZ (show p ∈ (s.heap.objs.size,ay ws)::l.im from hp)with rfl|h
  ·exact⟨ws,rfl⟩
  ·exact n.H.imt p h,n.H.kn,n.H.kb,fun i hi=>⟨(n.H.tab i hi).1.mono prZ (fun _ h=>.tail _ h) rfl,(n.H.tab i hi).2⟩⟩
 ap:=n.ap
 sm:=n.sm
 bq:=n.bq
 oq:=n.oq
noncomputable def LS.put(l:LS)(i:Nat)(a:Addr)(o:Obj):LS:=⟨l.RL.set i (a,o),l.im,l.ks⟩
theorem LS.as_put(l:LS){i:Nat}{a:Addr}{o₀:Obj}(o:Obj)(h:l.RL[i]? =some (a,o₀)):(l.put i a o).as=l.as:=by
 show (l.RL.set i (a,o)).map (·.1)=l.RL.map (·.1)
 rw [List.map_set]
 refine List.ext_getElem? fun j=>?_
 rw [List.getElem?_set];split
 ·rename_i e;subst e;obtain⟨hi,he⟩:=ybZ.mp h;simp [hi,he]
 ·rfl
theorem Ext.put{l:LS}{i:Nat}{a:Addr}{o₀:Obj}(o:Obj)(h:l.RL[i]? =some (a,o₀)):Ext l (l.put i a o):=⟨by rw [l.as_put o h];exact prZ,prZ,fun _ h=>h⟩
theorem Now.put(n:Now w F.h₀ F.L m X l st s){i:Nat}{a:Addr}{o₀ o:Obj}{h':Heap}{t:Nat}{mo:MO}(h:l.RL[i]? =some (a,o₀))(hs:Heap.SameBut a s.heap h')(ho:h'.get? a=some o)(hO:OR w.params l.as l.ks l.im mo o){mo₁:MO}(hv:aH st.H i=some mo₁)(hp₁:mo₁.plain=true:=by rfl)(hp:mo.plain=true:=by rfl):
  Now w F.h₀ F.L m X (l.put i a o) (wr st i mo) {s with heap:=h',toks:=t}:=by
 have hm:(a,o₀) ∈ l.RL:=moZ h;have D:=n.N _ (mlZ _ hm);have hka:(l.put i a o).as=l.as:=l.as_put o h
 have hio:∃mo₀,OR w.params l.as l.ks l.im mo₀ o₀:=by
  have hi:=(ybZ.mp h).1;have zr:=n.H.obj.length
  obtain⟨p,hp,hO⟩:=n.H.obj.get (i:=i) (yiZ (by lia))
  rw [h]at hp;cases hp;exact⟨_,hO⟩
 obtain⟨mo₀,hO₀⟩:=hio
 refine⟨⟨n.F.ns.sameBut hs (Ne.symm D.2.1),fun b ob e=>(hs.2 b fun q=>?_).trans (n.F.keep b ob e),n.F.above⟩,fun p hp=>?_,⟨?_,?_,n.H.imt,n.H.kn,n.H.kb,fun j hj=>?_⟩,fun p hp q hq=>?_,fun q hq=>?_,fun j ob h1 h2=>?_,n.oq⟩
 ·rw [q,D.2.2]at e;cases e
 ·have hp':p ∈ l.RL.set i (a,o)++(l.im++X):=hp;rcases maZ hp' with hq|hq
  ·obtain⟨j,hj⟩:=List.mem_iff_getElem?.mp hq;rw [List.getElem?_set]at hj;split at hj
   ·split at hj
    ·cases hj;exact⟨ho,D.2.1,D.2.2⟩
    ·cases hj
   ·rename_i hij;have hpm:p ∈ l.RL:=moZ hj;have P:=n.N p (mlZ _ hpm)
    have hne:p.1≠a:=fun e=>hij (bp n.H.nd (a:=a) (by show (l.RL.map (·.1))[i]? =_;rw [ydZ,h];rfl) (by show (l.RL.map (·.1))[j]? =_;rw [ydZ,hj,←e];rfl))
    exact⟨(hs.2 _ hne).trans P.1,P.2⟩
  ·have P:=n.N p (mrZ _ hq)
   have hne:p.1≠a:=by
    rcases maZ hq with h1|h1
    ·intro e;obtain⟨ws,hw⟩:=n.H.imt p h1;have e1:=P.1;rw [e,D.1]at e1;have e2:o₀=p.2:=oiZ e1
     exact hO₀.notTup w (by rw [e2,hw])
    ·exact n.ap p h1 (a,o₀) hm
   exact⟨(hs.2 _ hne).trans P.1,P.2⟩
 ·show ORs w.params (l.put i a o).as l.ks l.im (bO mo st.H i) (l.RL.set i (a,o))
  rw [hka,aj];exact n.H.obj.set hO i
 ·rw [hka];exact n.H.nd
 ·rw [aJ]at hv;have hj':(bO mo st.H i)[j]? =some .ktb:=hj;rw [aj]at hj'
  have hji:j≠i:=fun e=>by
   subst e;rw [List.getElem?_set]at hj';simp only [if_true]at hj';split at hj'
   ·cases hj';cases hp
   ·cases hj'
  rw [ypZ (Ne.symm hji)]at hj';obtain⟨T,U⟩:=n.H.tab j hj'
  have hne:∀k,1≤k→k≤6→j+k≠i:=fun k h1 h2 e=>by
   have:=U k h1 h2;rw [e,hv]at this;cases this;cases hp₁
  refine⟨?_,fun k h1 h2=>?_⟩
  ·rw [hka]
   refine T.mono prZ (fun _ h=>h) ?_
   show ((l.RL.set i (a,o)).drop j).take 7=_
   by_cases hij:i < j
   ·rw [List.drop_set_of_lt hij]
   ·have hle:7≤i - j:=by
     refine Nat.le_of_not_lt fun q=>?_
     rcases Nat.eq_zero_or_pos (i - j)with z|z
     ·exact hji (by lia)
     ·exact hne (i - j) z (by lia) (by lia)
    rw [List.drop_set,if_neg hij];rw [List.take_set_of_le hle]
  ·show (bO mo st.H i)[j+k]? =_
   rw [aj,ypZ (Ne.symm (hne k h1 h2))];exact U k h1 h2
 ·have hq':q ∈ l.RL.set i (a,o):=hq;rcases List.mem_or_eq_of_mem_set hq' with h1|h1
  ·exact n.ap p hp q h1
  ·rw [h1];exact n.ap p hp (a,o₀) hm
 ·have hq':q ∈ l.RL.set i (a,o):=hq;rcases List.mem_or_eq_of_mem_set hq' with h1|h1
  ·exact n.sm q h1
  ·rw [h1];exact n.sm (a,o₀) hm
 ·have h1':j < mn i st.bas:=h1;unfold mn at h1'
  have hji:j < st.bas∧j≠i:=by
   split at h1'
   ·rename_i q;have q:i < st.bas:=lbZ q
    lia
   ·rename_i q
    refine⟨h1',fun e=>?_⟩
    subst e
    have:Nat.blt j st.bas=true:=by unfold Nat.blt;exact blZ h1'
    rw [this]at q;cases q
  obtain⟨g1,g2⟩:=n.bq j ob hji.1 h2;refine⟨?_,?_⟩
  ·show (bO mo st.H i)[j]? =_
   rw [aj,ypZ (Ne.symm hji.2)];exact g1
  ·show Fits _ (l.RL.set i (a,o))[j]?
   rw [ypZ (Ne.symm hji.2)];exact g2
theorem kF{as:List Addr}{ks:List (Bool×Int)}{im:List (Addr×Obj)}{k:MV}{v:Value}(hi:vz k=true)(h:VR as ks im k v):∃i t,bn ks k=some i∧v=.int i t:=
 let ⟨i,t,a,b⟩:=h.numI hi
 ⟨i,t,b,a⟩
theorem bZ(i:Int)(t:Tok):Value.isInt i (.int i t)=true:=decide_eq_true rfl
theorem tD{as:List Addr}{ks:List (Bool×Int)}{im:List (Addr×Obj)}(w:Wd):∀{vs:List MV} {ws:List Value},qh vs=true→VRs as ks im vs ws→∃is,cg ks vs=some is∧ItemsAre (intKind pg w.w) is ws:=by
 intro vs
 induction vs with
 |nil=>exact fun _ h=>h.nilI ▸⟨[],rfl,.nil⟩
 |cons v vs ih=>
  intro ws hi h;obtain⟨x,xs,rfl,a,as⟩:=h.consI;obtain⟨i,t,h1,rfl⟩:=kF (cO hi).1 a;obtain⟨is,h2,h3⟩:=ih (cO hi).2 as
  exact⟨i::is,by unfold cg;rw [h1,h2];rfl,.cons (bZ i t) h3⟩
theorem Now.tupKey(n:Now w F.h₀ F.L m X l st s){vs:List MV}{v':Value}(hv:l.VR (.tup vs) v')(ha:qh vs=true):∃a is,v'=.ref a∧cg l.ks vs=some is∧IsTupleKey (intKind pg w.w) s.heap is a:=by
 obtain⟨a,ws,rfl,hi,⟨o,ho,hc,k,hd⟩,hR,_⟩:=n.tupl hv;obtain⟨is,h1,h2⟩:=tD w ha hR
 exact⟨a,is,rfl,h1,o,_,k,ho,hc,hd,by simpa using h2⟩
theorem tE(v:MV):(∃vs,v=.tup vs)∨UA v=vz v∧jU v=vz v:=by
 cases v <;>first|exact .inl ⟨_,rfl⟩|exact .inr ⟨rfl,rfl⟩
theorem Now.elKey(n:Now w F.h₀ F.L m X l st s){v:MV}{v':Value}(hv:l.VR v v')(ha:UA v=true):∃k,dC l.ks v=some k∧EIs pg w.w s.heap k v':=by
 rcases tE v with⟨vs,rfl⟩|⟨q,_⟩
 ·obtain⟨a,is,rfl,h1,h2⟩:=n.tupKey hv ha;exact⟨.inr is,kB h1,a,rfl,h2⟩
 ·obtain⟨i,t,h1,rfl⟩:=kF (q ▸ha) hv;exact⟨.inl i,kA h1,bZ i t⟩
theorem Now.elKeys(n:Now w F.h₀ F.L m X l st s):∀{vs:List MV} {ws:List Value},l.VRs vs ws→sR vs=true→∃r,dz l.ks vs=some r∧EsAre pg w.w s.heap r ws:=by
 intro vs
 induction vs with
 |nil=>exact fun h _=>h.nilI ▸⟨[],rfl,.nil⟩
 |cons v vs ih=>
  intro ws h ha;obtain⟨x,xs,rfl,a,as⟩:=h.consI;obtain⟨k,h1,h2⟩:=n.elKey a (cO ha).1;obtain⟨r,h3,h4⟩:=ih as (cO ha).2
  exact⟨k::r,by unfold dz;rw [h1,h3];rfl,.cons h2 h4⟩
theorem Now.key(n:Now w F.h₀ F.L m X l st s){k:MV}{v:Value}(hk:jU k=true)(h:l.VR k v):(∃i t,bn l.ks k=some i∧v=.int i t)∨(∃r a,ee l.ks k=some r∧v=.ref a∧IsRow pg w.w s.heap r a):=by
 rcases tE k with⟨vs,rfl⟩|⟨_,q⟩
 ·obtain⟨a,ws,rfl,hi,⟨o,ho,hc,j,hd⟩,hR,_⟩:=n.tupl h;obtain⟨r,h1,h2⟩:=n.elKeys hR hk
  exact .inr ⟨r,a,h1,rfl,o,_,j,ho,hc,hd,by simpa using h2⟩
 ·exact .inl (kF (q ▸hk) h)
theorem GN{ks:List (Bool×Int)}{k:MV}{i:Int}(h:bn ks k=some i):vz k=true:=by
 cases k <;>first|rfl|exact aF h
theorem pR{ks:List (Bool×Int)}:∀{vs:List MV} {is:List Int},cg ks vs=some is→qh vs=true
 |[],_,_=>rfl
 |v::r,is,h=>by
  obtain⟨i,u,h1,h2,_⟩:=tB h;unfold qh;rw [GN h1,pR h2];rfl
theorem GO{ks:List (Bool×Int)}{k:MV}{i:RK}(h:dC ks k=some i):UA k=true:=by
 rcases gD h with⟨a,h1,_⟩|⟨vs,a,rfl,h1,_⟩
 ·cases k <;>first|exact aF h1|rfl
 ·exact pR h1
theorem pS{ks:List (Bool×Int)}:∀{vs:List MV} {is:List RK},dz ks vs=some is→sR vs=true
 |[],_,_=>rfl
 |v::r,is,h=>by
  obtain⟨i,u,h1,h2,_⟩:=tC h;unfold sR;rw [GO h1,pS h2];rfl
theorem tF{ks:List (Bool×Int)}{k:MV}{i:List RK}(h:ee ks k=some i):jU k=true:=by
 cases k <;>first|exact pS h|exact aF h
theorem Now.hkeys(n:Now w F.h₀ F.L m X l st s){es:List (MV×MV)}{xs:List (List RK×Addr×Value)}(h:HVs l.as l.ks l.im es xs):∀x ∈ xs,IsRow pg w.w s.heap x.1 x.2.1:=by
 induction h with
 |nil=>exact fun _ h=>nomatch h
 |cons hk ha hv hs ih=>
  intro x hx;rcases mcZ hx with rfl|hx
  ·rcases n.key (tF hk) ha with⟨i,t,h1,h2⟩|⟨r,a,h1,h2,h3⟩
   ·exact nomatch h2
   ·injection h2 with h2;exact h2 ▸oiZ (hk.symm.trans h1) ▸h3
  ·exact ih x hx
theorem jZ{ks:List (Bool×Int)}{k k':MV}{i:Int}{r:List RK}(h1:bn ks k=some i)(h2:ee ks k'=some r)(n:Nat):ec n k k'=none∧ec n k' k=none:=by
 cases k' <;>first|exact aF h2|exact oA h1 n
theorem KVs.nil_of{as:List Addr}{ks:List (Bool×Int)}{im:List (Addr×Obj)}{k:MV}{r:List RK}{es:List (MV×MV)}{zw:List (Int×Value)}(h:KVs as ks im es zw)(hk:ee ks k=some r){o:Option MV}(e:pB k es=some o):es=[]∧zw=[]:=by
 cases h with
 |nil=>exact⟨rfl,rfl⟩
 |cons h1 hv hs=>rcases w9 e with⟨q,_⟩|⟨q,_⟩ <;>exact aF ((jZ h1 hk 40).1.symm.trans q)
theorem HVs.nil_of{as:List Addr}{ks:List (Bool×Int)}{im:List (Addr×Obj)}{k:MV}{i:Int}{es:List (MV×MV)}{xs:List (List RK×Addr×Value)}(h:HVs as ks im es xs)(hk:bn ks k=some i){o:Option MV}(e:pB k es=some o):es=[]∧xs=[]:=by
 cases h with
 |nil=>exact⟨rfl,rfl⟩
 |cons h1 ha hv hs=>rcases w9 e with⟨q,_⟩|⟨q,_⟩ <;>exact aF ((jZ hk h1 40).2.symm.trans q)
theorem qr{prog:Program}{w:Wd}{K:Type}[DecidableEq K]{knd:KeyKind prog w.w K}{es:List DictEntry}(h:Pairs knd es []):es=[]:=by cases h;rfl
inductive Z6(w:Wd)(l:LS)(s:Shared)(r:Nat)(es:List (MV×MV))(v':Value):Prop
 |mk (a:Addr) (ob:Obj) (zw:List (Int×Value)) (e:v'=.ref a) (h1:l.RL[r]? =some (a,ob)) (h2:(a==sysModules)=false) (h3:s.heap.DictOf (intKind pg w.w) a zw) (h4:KVs l.as l.ks l.im es zw) (h5:es.length≤1048576):Z6 w l s r es v'
theorem Now.dictI(n:Now w F.h₀ F.L m X l st s){r:Nat}{es:List (MV×MV)}{v':Value}(hv:l.VR (.ref r) v')(h1:aH st.H r=some (.dict es)){k:MV}{i:Int}(hk:bn l.ks k=some i){o:Option MV}(e:pB k es=some o):
  Z6 w l s r es v':=by
 obtain⟨a,ob,rfl,h2,h3,h4,hO⟩:=n.at hv h1;obtain⟨hl,⟨zw,h,ho⟩|⟨xs,ds,ep,h,hc,hd,hds,hn⟩⟩:=hO.dictI
 ·exact⟨a,ob,_,rfl,h2,h4,Heap.dictOf_iff.mpr ⟨_,h3,ho w.w⟩,h,hl⟩
 ·obtain⟨rfl,rfl⟩:=h.nil_of hk e;have:ds=#[]:=Array.toList_inj.mp hds;subst this
  exact⟨a,ob,[],rfl,h2,h4,⟨_,_,_,h3,hc,hd,fun e he=>absurd he (Array.not_mem_empty _),.nil,.nil⟩,.nil,hl⟩
inductive Z7(w:Wd)(l:LS)(s:Shared)(r:Nat)(es:List (MV×MV))(v':Value):Prop
 |mk (a:Addr) (ob:Obj) (xs:List (List RK×Addr×Value)) (e:v'=.ref a) (h1:l.RL[r]? =some (a,ob)) (h2:(a==sysModules)=false) (h3:s.heap.DictOfH (dY pg w.w) a xs) (h4:HVs l.as l.ks l.im es xs) (h5:es.length≤1048576):Z7 w l s r es v'
theorem Now.dictR(n:Now w F.h₀ F.L m X l st s){r:Nat}{es:List (MV×MV)}{v':Value}(hv:l.VR (.ref r) v')(h1:aH st.H r=some (.dict es)){k:MV}{i:List RK}(hk:ee l.ks k=some i){o:Option MV}(e:pB k es=some o):
  Z7 w l s r es v':=by
 obtain⟨a,ob,rfl,h2,h3,h4,hO⟩:=n.at hv h1;obtain⟨hl,⟨zw,h,ho⟩|⟨xs,ds,ep,h,hc,hd,hds,hn⟩⟩:=hO.dictI
 ·obtain⟨rfl,rfl⟩:=h.nil_of hk e;obtain⟨ds,ep,hc,hd,_,hp,_⟩:=ho w.w
  exact⟨a,ob,[],rfl,h2,h4,⟨_,_,_,h3,hc,hd,by rw [qr hp];rfl,fun _ h=>(nomatch h),.nil⟩,.nil,hl⟩
 ·exact⟨a,ob,_,rfl,h2,h4,⟨_,_,_,h3,hc,hd,hds,n.hkeys h,hn⟩,h,hl⟩
theorem Found.isSome{as:List Addr}{ks:List (Bool×Int)}{im:List (Addr×Obj)}{o:Option MV}{x:Option Value}(h:Found as ks im o x):x.isSome=o.isSome:=by
 cases o <;>cases x <;>first|rfl|exact h.elim
theorem in_dict(n:Now w F.h₀ F.L m X l st s){A:Around}(hA:A.units+10 < cLine){r:Nat}{es:List (MV×MV)}{v' kv:Value}(hv:l.VR (.ref r) v')(h1:aH st.H r=some (.dict es)){k:MV}(hk:l.VR k kv){o:Option MV}(e:gp k es=some o)
  (h:∀t,Q (.bool o.isSome) {s with toks:=t}):wpAny (M w) A (compareOp .In kv v') Q E s:=by
 obtain⟨q,e⟩:=fU e;rcases n.key q hk with⟨i,t,k1,rfl⟩|⟨rr,a,k1,rfl,k2⟩
 ·obtain⟨a,ob,zw,rfl,_,hs,hD,hK,_⟩:=n.dictI hv h1 k1 e;refine wpAny_in_of (knd:=intKind pg w.w) (k:=i) (bZ i t) hs hD.mapOf ?_;rw [(hK.look n.H.kn n.H.kb k1 e).isSome];exact h _
 ·obtain⟨d,ob,xs,rfl,_,hs,hD,hK,_⟩:=n.dictR hv h1 k1 e
  refine wpAny_in_heap (knd:=dY pg w.w) (by show A.units+1+1 < cLine;lia) k2 hs hD ?_
  have:=(hK.look n.H.kn n.H.kb k1 e).isSome;rw [Option.isSome_map]at this;rw [this];exact h _
theorem oB(n:Now w F.h₀ F.L m X l st s){A:Around}(hA:A.units+10 < cLine){r:Nat}{es:List (MV×MV)}{v' kv:Value}(hv:l.VR (.ref r) v')(h1:aH st.H r=some (.dict es)){k:MV}(hk:l.VR k kv){o:Option MV}(e:gp k es=some o)
  (h:∀t,Q (.bool (!o.isSome)) {s with toks:=t}):wpAny (M w) A (compareOp .NotIn kv v') Q E s:=by
 obtain⟨q,e⟩:=fU e;rcases n.key q hk with⟨i,t,k1,rfl⟩|⟨rr,a,k1,rfl,k2⟩
 ·obtain⟨a,ob,zw,rfl,_,hs,hD,hK,_⟩:=n.dictI hv h1 k1 e;refine wpAny_notIn_of (knd:=intKind pg w.w) (k:=i) (bZ i t) hs hD.mapOf ?_;rw [(hK.look n.H.kn n.H.kb k1 e).isSome];exact h _
 ·obtain⟨d,ob,xs,rfl,_,hs,hD,hK,_⟩:=n.dictR hv h1 k1 e
  refine wpAny_notIn_heap (knd:=dY pg w.w) (by show A.units+1+1 < cLine;lia) k2 hs hD ?_
  have:=(hK.look n.H.kn n.H.kb k1 e).isSome;rw [Option.isSome_map]at this;rw [this];exact h _
theorem item_dict(n:Now w F.h₀ F.L m X l st s){A:Around}(hA:A.units+10 < cLine){value sl:xpZ}(hsl:cQ sl=true){r:Nat}{es:List (MV×MV)}{v' kv:Value}(hv:l.VR (.ref r) v')(h1:aH st.H r=some (.dict es)){k v:MV}(hk:l.VR k kv)(e:gp k es=some (some v))
  (h:∀x t,l.VR v x→Q x {s with toks:=t}):wpAny (M w) A (subscriptTail value sl v' kv) Q E s:=by
 obtain⟨q,e⟩:=fU e;rcases n.key q hk with⟨i,t,k1,rfl⟩|⟨rr,a,k1,rfl,k2⟩
 ·obtain⟨a,ob,zw,rfl,_,hs,hD,hK,_⟩:=n.dictI hv h1 k1 e;have f:=hK.look n.H.kn n.H.kb k1 e
  cases hx:valueAt zw i with
  |none=>rw [hx]at f;exact f.elim
  |some x=>
   rw [hx]at f;exact tail_any hD.typeIs slot_dict_getitem.lookup (wpAny_getItem_of (knd:=intKind pg w.w) (k:=i) (bZ i t) hD.mapOf hx (h x _ f)) (aZ hsl _ _)
 ·obtain⟨d,ob,xs,rfl,_,hs,hD,hK,_⟩:=n.dictR hv h1 k1 e;have f:=hK.look n.H.kn n.H.kb k1 e
  cases hx:atKey xs rr with
  |none=>rw [hx]at f;exact f.elim
  |some x=>
   rw [hx]at f
   exact tail_any hD.typeIs slot_dict_getitem.lookup (wpAny_getItem_heap (knd:=dY pg w.w) (by show A.units+1+1 < cLine;lia) k2 hD hx (h x.2 _ f)) (aZ hsl _ _)
theorem wa{A:Around}{value sl:xpZ}(hsl:cQ sl=true){x:Str}{t u:Tok}{i c:Nat}(hc:x.cps.toList[i]? =some c)(hsz:i < 2 ^ 62)(h:∀t' k,Q (.str ⟨#[c]⟩ t') {s with toks:=k}):
  wpAny (M w) A (subscriptTail value sl (.str x t) (.int (.ofNat i) u)) Q E s:=by
 have hi:=(ybZ.mp hc).1
 have hl:x.length=x.cps.toList.length:=by simp [Str.length]
 refine tail_any (T:="str") (typeIs_str s x t) F.slot_str_getitem.lookup (P.getItem_str (c:=c) ?_ ?_ (h _ _)) (aZ hsl _ _)
 ·have e:(Int.ofNat i)=(i:Int):=rfl;rw [e];simp only [Bool.or_eq_false_iff,decide_eq_false_iff_not]
  constructor <;>lia
 ·have:seqIndex? (Int.ofNat i) x.length=some i:=by
   unfold seqIndex?;have e:(Int.ofNat i)=(i:Int):=rfl;rw [e]
   have:¬((i:Int) < 0):=by lia
   simp only [this,if_false]
   rw [if_pos (by simp only [Bool.and_eq_true,decide_eq_true_eq];lia)]
   simp
  rw [this]
  simpa using hc
theorem tG(S:Sit w F)(R:F.A.units+10 < cLine)(n:Now w F.h₀ F.L m X l st s){value sl:xpZ}(hsl:cQ sl=true){a k v:MV}{o i:Value}(ha:l.VR a o)(hk:l.VR k i)(e:fT st a k=some v)
  (h:Goes w F m X l s v st Q):wpAny (M w) F.A (subscriptTail value sl o i) Q E s:=by
 refine (?_:Al (fT st a k) fun v=>Goes w F m X l s v st Q→wpAny (M w) F.A (subscriptTail value sl o i) Q E s) v e h
 cases a with
 |tup vs=>
  refine .ob fun j hj v e h=>?_
  obtain⟨t,rfl⟩:=VR.intI (bd hj ▸hk);exact sz n hsl ha e h
 |str x=>
  refine .ob fun j hj=>.ok fun hj2=>.mp fun c hc h=>?_
  obtain⟨t,rfl⟩:=VR.intI (fV hj ▸hk);obtain⟨u,rfl⟩:=ha.strI;rw [aJ]at hc
  exact wa hsl hc (Nat.lt_trans hj2 (by decide)) fun t' k=>h _ _ l (n.toks _) Ext.rfl' Same.mk' (.str _ _)
 |ref r=>
  refine .ob fun ob h1=>?_
  cases ob with
  |list vs=>
   refine .ob fun j hj v e h=>?_
   obtain⟨t,rfl⟩:=VR.intI (bd hj ▸hk);exact sy n hsl ha h1 e h
  |dict es=>exact .ob fun o' q v e h=>item_dict n R hsl ha h1 hk (e ▸q) fun x t hx=>h x _ l (n.toks _) Ext.rfl' Same.mk' hx
  |_=>exact .no
 |_=>exact .no
theorem gG(n:Now w F.h₀ F.L m X l st s){A:Around}{v:MV}{v':Value}{b:Bool}{Q:Bool→Shared→Prop}(hv:l.VR v v')(e:fR st v=some b)(h:∀t,Q b {s with toks:=t}):wpAny (M w) A (truthy v') Q E s:=by
 have L:∀{vs:List MV} {ws:List Value},l.VRs vs ws→wR vs= !ws.toArray.isEmpty:=fun {vs ws} h=>by
  cases vs with
  |nil=>rw [h.nilI];rfl
  |cons x xs=>
   obtain⟨y,ys,rfl,_⟩:=h.consI;rfl
 refine (?_:Al (fR st v) fun b=>(∀t,Q b {s with toks:=t})→wpAny (M w) A (truthy v') Q E s) b e h
 cases v with
 |none=>obtain rfl:=hv.noneI;exact .so fun h=>truthy_none (h s.toks)
 |bool c=>obtain rfl:=hv.boolI;exact .so fun h=>wpAny_truthy_bool (h s.toks)
 |int i=>obtain⟨t,rfl⟩:=hv.intI;exact .so fun h=>P.truthy_int (by have:=h s.toks;rw [kD]at this;exact this)
 |tup vs=>
  obtain⟨a,ws,rfl,_,hT,hR,hl⟩:=n.tupl hv
  exact .so fun h=>truthy_tuple hT (by rw [ymZ,←hR.length];lia) (L hR ▸h _)
 |ref r=>
  refine .ob fun vs h1=>?_
  obtain⟨a,ws,ep,rfl,_,hT,hR,hl⟩:=n.lst hv (gr h1)
  exact .so fun h=>wpAny_truthy_list hT (by rw [ymZ,←hR.length];lia) (L hR ▸h _)
 |_=>exact .no
open Classical in
def tupAt(im:List (Addr×Obj))(a:Addr):List Value:=if h:∃ws,(a,ay ws) ∈ im then h.choose else []
theorem Now.tupAt(n:Now w F.h₀ F.L m X l st s){a:Addr}{ws:List Value}(h:(a,ay ws) ∈ l.im):tupAt l.im a=ws:=by
 have e:∃ws,(a,ay ws) ∈ l.im:=⟨ws,h⟩;unfold Mine.tupAt;rw [dif_pos e];exact n.imfun e.choose_spec h
def pL(p:Value→Value→Bool)(q:List Value→List Value→Bool):List Value→List Value→Bool
 |[],us=>us.isEmpty
 |v::vs,us=>match us with
  |[]=>false
  |u::us=>an (p v u) (q vs us)
def pV(im:List (Addr×Obj))(q:List Value→List Value→Bool)(v u:Value):Bool:=match v with
 | .none=>true
 | .bool x=>match u with
  | .bool y=>match x with|true=>y|false=> !y
  |_=>false
 | .int i _=>match u with
  | .int j _=>decide (i=j)
  |_=>false
 | .str x _=>match u with
  | .str y _=>sq x y
  |_=>false
 | .ref a=>match u with
  | .ref b=>q (tupAt im a) (tupAt im b)
  |_=>false
 |_=>false
def pK(im:List (Addr×Obj)):Nat→(Value→Value→Bool)×(List Value→List Value→Bool)
 |0=>(fun _ _=>false,fun _ _=>false)
 |k+1=>(pV im (pL (pK im k).1 (pK im k).2),pL (pK im k).1 (pK im k).2)
theorem tH(n:Now w F.h₀ F.L m X l st s):∀(k:Nat),(∀x y v u b,l.VR x v→l.VR y u→ec k x y=some b→b=(pK l.im k).1 v u)∧(∀xs ys vs us b,l.VRs xs vs→l.VRs ys us→ec k (.tup xs) (.tup ys)=some b→b=(pK l.im k).2 vs us):=by
 intro k
 induction k with
 |zero=>exact⟨fun _ _ _ _ _ _ _ e=>aF e,fun _ _ _ _ _ _ _ e=>aF e⟩
 |succ k ih=>
  have T:∀xs ys vs us b,l.VRs xs vs→l.VRs ys us→ec (k+1) (.tup xs) (.tup ys)=some b→b=(pK l.im (k+1)).2 vs us:=by
   intro xs ys vs us b h1 h2 e
   cases tupI e with
   |nil=>rw [h1.nilI,h2.nilI];rfl
   |nc y ys=>
    obtain⟨_,_,rfl,_,_⟩:=h2.consI;rw [h1.nilI];rfl
   |cn x xs=>
    obtain⟨_,_,rfl,_,_⟩:=h1.consI;rw [h2.nilI];rfl
   |cc e1 e2=>
    obtain⟨_,_,rfl,a1,r1⟩:=h1.consI;obtain⟨_,_,rfl,a2,r2⟩:=h2.consI;rw [ih.1 _ _ _ _ _ a1 a2 e1,ih.2 _ _ _ _ _ r1 r2 e2];rfl
  refine⟨fun x y v u b h1 h2 e=>?_,T⟩
  cases w8 e with
  |none=>rw [h1.noneI,h2.noneI];rfl
  |bool c d=>rw [h1.boolI,h2.boolI];rfl
  |str x y=>
   obtain⟨t,rfl⟩:=h1.strI;obtain⟨t',rfl⟩:=h2.strI;rfl
  |num i1 i2 e=>
   obtain⟨i,t,rfl,k1⟩:=h1.numI i1;obtain⟨j,u,rfl,k2⟩:=h2.numI i2;exact ey n.H.kn n.H.kb k1 k2 e
  |tup e=>
   obtain⟨a,ws,rfl,m1,s1,_⟩:=h1.tupI;obtain⟨b,us,rfl,m2,s2,_⟩:=h2.tupI;refine (T _ _ _ _ _ s1 s2 e).trans ?_
   show _=pL _ _ (Mine.tupAt l.im a) (Mine.tupAt l.im b)
   rw [n.tupAt m1,n.tupAt m2];rfl
open Classical in
def mJ(l:LS)(vs:List MV)(x:MV)(y:Value):Bool:=decide (∃z ∈ vs,l.VR z y∧bP z x=some true)
open Classical in
theorem eqTo_iff{l:LS}{vs:List MV}{x:MV}{y:Value}:mJ l vs x y=true ↔ ∃z ∈ vs,l.VR z y∧bP z x=some true:=by
 unfold mJ;exact decide_eq_true_iff
theorem pT{x:MV}:∀{vs:List MV} {b:Bool},inl x vs=some b→(∀z ∈ vs,∃p,bP z x=some p)∧b=vs.any fun z=>bP z x==some true
 |[],b,e=>⟨fun _ h=>(nomatch h),(oiZ e).symm⟩
 |z::r,b,e=>by
  obtain⟨p,e1,e⟩:=bV e;obtain⟨q,e2,e⟩:=bV e;obtain⟨h1,h2⟩:=pT e2
  refine⟨fun z' hz=>?_,?_⟩
  ·rcases mcZ hz with rfl|hz
   ·exact⟨_,e1⟩
   ·exact h1 z' hz
  ·rw [List.any_cons,e1,←h2,←Option.some.inj e];cases p <;>rfl
theorem hZ(n:Now w F.h₀ F.L m X l st s){A:Around}(hA:A.units+60 < cLine){vs:List MV}{ws:List Value}{x:MV}{xv:Value}{b:Bool}(hs:l.VRs vs ws)(hx:l.VR x xv)(e:inl x vs=some b):
  ∃f:Value→Bool,(∀y,y ∈ ws.toArray→EqAt A.in1 s y xv (f y))∧ws.toArray.any f=b:=by
 obtain⟨h1,h2⟩:=pT e
 have key:∀z ∈ vs,∀y,l.VR z y→bP z x=some (mJ l vs x y):=fun z hz y hy=>by
  obtain⟨p,hp⟩:=h1 z hz;rw [hp]
  cases p with
  |true=>rw [eqTo_iff.mpr ⟨z,hz,hy,hp⟩]
  |false=>
   cases hq:mJ l vs x y with
   |false=>rfl
   |true=>
    obtain⟨z',hz',hy',hp'⟩:=eqTo_iff.mp hq;exact Fz (((tH n 40).1 _ _ _ _ _ hy' hx hp').trans ((tH n 40).1 _ _ _ _ _ hy hx hp).symm)
 have pt:∀{vs':List MV} {ws':List Value},l.VRs vs' ws'→(∀z ∈ vs',z ∈ vs)→(∀y ∈ ws',EqAt A.in1 s y xv (mJ l vs x y))∧ws'.any (mJ l vs x)=vs'.any fun z=>bP z x==some true:=by
  intro vs' ws' h
  induction vs' generalizing ws' with
  |nil=>exact h.nilI ▸fun _=>⟨fun _ h=>(nomatch h),rfl⟩
  |cons z zs ih=>
   obtain⟨y,ys,rfl,a,as⟩:=h.consI;intro hm
   obtain⟨i1,i2⟩:=ih as fun z hz=>hm z (.tail _ hz)
   have ky:=key _ (hm _ (.head _)) y a
   refine⟨fun y' hy'=>?_,?_⟩
   ·rcases mcZ hy' with rfl|hy'
    ·exact ((kE n 40 A.in1 (by show A.units+1+40 < cLine;lia)).1 _ _ _ _ _ a hx ky).2
    ·exact i1 y' hy'
   ·rw [List.any_cons,List.any_cons,i2,ky]
    cases mJ l vs x y <;>rfl
 obtain⟨p1,p2⟩:=pt hs fun _ h=>h
 exact⟨mJ l vs x,fun y hy=>p1 y (Array.mem_toList_iff.mpr hy),by rw [h2,←p2];simp⟩
theorem Now.same_ref(n:Now w F.h₀ F.L m X l st s){r r':Nat}{a:Addr}(h1:l.VR (.ref r) (.ref a))(h2:l.VR (.ref r') (.ref a)):r=r':=by
 obtain⟨_,e1,h1⟩:=h1.refI;obtain⟨_,e2,h2⟩:=h2.refI;injection e1 with e1;injection e2 with e2;exact bp n.H.nd (e1 ▸h1) (e2 ▸h2)
inductive DT(st:MS)(n:Nat):List MV→List MV→Bool→Prop
 |nil:DT st n [] [] true
 |nc (y:MV) (ys:List MV):DT st n [] (y::ys) false
 |cn (x:MV) (xs:List MV):DT st n (x::xs) [] false
 |cc {x y:MV} {xs ys:List MV} {p q:Bool} (h:pD st n x y=some p) (hs:pD st n (.tup xs) (.tup ys)=some q):DT st n (x::xs) (y::ys) (an p q)
theorem Z8{n:Nat}{xs ys:List MV}{p:Bool}(e:pD st (n+1) (.tup xs) (.tup ys)=some p):DT st n xs ys p:=by
 cases xs with
 |nil=>cases ys with
  |nil=>exact oiZ e ▸ .nil
  |cons y ys=>exact oiZ e ▸ .nc y ys
 |cons x xs=>cases ys with
  |nil=>exact oiZ e ▸ .cn x xs
  |cons y ys=>
   obtain⟨p,h1,e⟩:=bV e;obtain⟨q,h2,e⟩:=bV e;exact oiZ e ▸ .cc h1 h2
inductive DQ(st:MS)(n:Nat):MV→MV→Bool→Prop
 |lst {r s:Nat} {xs ys:List MV} {b:Bool} (h1:aH st.H r=some (.list xs)) (h2:aH st.H s=some (.list ys)) (e:bP (.tup xs) (.tup ys)=some b):DQ st n (.ref r) (.ref s) b
 |tup {xs ys:List MV} {b:Bool} (e:pD st (n+1) (.tup xs) (.tup ys)=some b):DQ st n (.tup xs) (.tup ys) b
 |els {x y:MV} {b:Bool} (e:bP x y=some b):DQ st n x y b
theorem Pv{n:Nat}{a b:MV}{p:Bool}(e:pD st (n+1) a b=some p):DQ st n a b p:=by
 cases a with
 |ref r=>
  obtain⟨s,h,e⟩:=bV e;obtain⟨xs,h1,e⟩:=bV e;obtain⟨ys,h2,e⟩:=bV e;exact (cf h).symm ▸ .lst (gr h1) (gr h2) e
 |tup xs=>cases b <;>first|exact .tup e|exact aF e
 |_=>exact .els e
theorem tI(n:Now w F.h₀ F.L m X l st s):∀(k:Nat),(∀x y v b,l.VR x v→l.VR y v→pD st k x y=some b→b=true)∧(∀xs ys vs b,l.VRs xs vs→l.VRs ys vs→pD st k (.tup xs) (.tup ys)=some b→b=true):=by
 intro k
 induction k with
 |zero=>exact⟨fun _ _ _ _ _ _ e=>aF e,fun _ _ _ _ _ _ e=>aF e⟩
 |succ k ih=>
  have T:∀xs ys vs b,l.VRs xs vs→l.VRs ys vs→pD st (k+1) (.tup xs) (.tup ys)=some b→b=true:=by
   intro xs ys vs b h1 h2 e
   cases Z8 e with
   |nil=>rfl
   |nc y ys=>exact nomatch h1.nilI ▸h2
   |cn x xs=>exact nomatch h2.nilI ▸h1
   |cc e1 e2=>
    obtain⟨v,vs,rfl,a1,r1⟩:=h1.consI;obtain⟨_,_,q,a2,r2⟩:=h2.consI;injection q with q1 q2;rw [ih.1 _ _ _ _ a1 (q1 ▸a2) e1,ih.2 _ _ _ _ r1 (q2 ▸r2) e2];rfl
  refine⟨fun x y v b h1 h2 e=>?_,T⟩
  cases Pv e with
  |lst g1 g2 e2=>
   obtain⟨a,ws,ep,rfl,h3,_,hR,_⟩:=n.lst h1 g1;obtain rfl:=n.same_ref h1 h2;have:=g1.symm.trans g2;injection this with this;injection this with this;exact (iW n 40).2 _ _ _ _ hR (this ▸hR) e2
  |tup e=>
   obtain⟨a,ws,rfl,i1,s1,_⟩:=h1.tupI;obtain⟨a2,Vf,q,i2,s2,_⟩:=h2.tupI;injection q with q;exact T _ _ _ _ s1 (n.imfun i1 (q ▸i2) ▸s2) e
  |els e=>exact (iW n 40).1 _ _ _ _ h1 h2 e
theorem wb(n:Now w F.h₀ F.L m X l st s):∀(k:Nat) (A:Around),A.units+k+50 < cLine→
  (∀x y v u b,l.VR x v→l.VR y u→pD st k x y=some b→RcAt A s v u b∧EqAt A s v u b)∧(∀xs ys vs us b,l.VRs xs vs→l.VRs ys us→pD st k (.tup xs) (.tup ys)=some b→SeqE A s vs us b):=by
 intro k
 induction k with
 |zero=>exact fun A _=>⟨fun _ _ _ _ _ _ _ e=>aF e,fun _ _ _ _ _ _ _ e=>aF e⟩
 |succ k ih=>
  intro A hA
  have T:∀(A:Around),A.units+k+50 < cLine→∀xs ys vs us b,l.VRs xs vs→l.VRs ys us→pD st (k+1) (.tup xs) (.tup ys)=some b→SeqE A s vs us b:=by
   intro A hA xs ys vs us b h1 h2 e
   cases Z8 e with
   |nil=>
    obtain rfl:=h1.nilI;obtain rfl:=h2.nilI;exact .ends rfl rfl
   |nc y ys=>
    obtain⟨_,_,rfl,_,_⟩:=h2.consI;exact h1.nilI ▸ .ends (Nat.zero_min _) rfl
   |cn x xs=>
    obtain⟨_,_,rfl,_,_⟩:=h1.consI;exact h2.nilI ▸ .ends (Nat.min_zero _) rfl
   |cc e1 e2=>
    obtain⟨_,_,rfl,a1,r1⟩:=h1.consI;obtain⟨_,_,rfl,a2,r2⟩:=h2.consI;exact nz ▸SeqE.cons ((ih A hA).1 _ _ _ _ _ a1 a2 e1).2 ((ih A hA).2 _ _ _ _ _ r1 r2 e2)
  refine⟨fun x y v u b h1 h2 e=>?_,T A (by lia)⟩
  have G:∀{a a':Addr},v=.ref a→u=.ref a'→RcAt A s (.ref a) (.ref a') b→RcAt A s v u b∧EqAt A s v u b:=fun {a a'} ea eb R=>by
   subst ea eb;refine⟨R,?_⟩
   by_cases hab:a=a'
   ·subst hab;rw [(tI n (k+1)).1 _ _ _ _ h1 h2 e];exact .same _
   ·exact .of_refs hab R
  have hu:A.units < cLine:=by lia
  cases Pv e with
  |lst g1 g2 e=>
   obtain⟨a,ws,ep,ha,h3,t1,hR,_⟩:=n.lst h1 g1;obtain⟨a',ws',ep',hb,h3',t2,hR',_⟩:=n.lst h2 g2
   exact G ha hb (((kE n 40 A.in1 (by show A.units+1+40 < cLine;lia)).2 _ _ _ _ _ hR hR' e).lists t1 t2 hu)
  |tup e=>
   obtain⟨a,ws,ha,m1,t1,hR,_⟩:=n.tupl h1;obtain⟨a',ws',hb,m2,t2,hR',_⟩:=n.tupl h2
   exact G ha hb ((T A.in1 (by show A.units+1+k+50 < cLine;lia) _ _ _ _ _ hR hR' e).tuples t1 t2 hu)
  |els e=>exact (kE n 40 A (by lia)).1 _ _ _ _ _ h1 h2 e
end
noncomputable def V6(o:Option Int)(i:Int):Bool:=match o with
 |some j=>decide (j=i)
 |none=>false
theorem Pw{o:Option Int}{i:Int}(h:V6 o i=true):o=some i:=match o,h with
 |some _,h=>congrArg some (of_decide_eq_true h)
 |none,h=>cM h
theorem tJ{v:Value}{i:Int}(h:lz v=some i):∃t,v=.int i t:=by
 cases v with
 |int j t=>exact⟨t,oiZ h ▸rfl⟩
 |_=>exact aF h
def tK:List DictEntry→List (Int×Int)→Bool
 |[],ps=>match ps with
  |[]=>true
  |_::_=>false
 |e::r,ps=>match ps with
  |[]=>false
  |p::q=>an (an (an (V6 (lz e.key) p.1) (V6 (lz e.val) p.2)) (decide (e.hash=hashInt p.1))) (tK r q)
noncomputable def dD(d:Data)(f:Array DictEntry→Bool):Bool:=match d with
 | .dict es _=>f es
 |_=>false
theorem dDI{d:Data}{f:Array DictEntry→Bool}(h:dD d f=true):∃es ep,d=.dict es ep∧f es=true:=by
 cases d with
 |dict es ep=>exact⟨es,ep,rfl,h⟩
 |_=>exact cM h
noncomputable def Px(v:Value):Bool:=match v with
 | .type c=>decide (c="dict")
 |_=>false
theorem Py{v:Value}(h:Px v=true):v=.type "dict":=by
 cases v with
 |type c=>exact congrArg Value.type (of_decide_eq_true h)
 |_=>exact cM h
def V7(o:Obj)(t:Nat):Bool:=dD o.data fun es=>an (Px o.cls) (an o.dict.isNone (an o.slots.isEmpty (an (tK es.toList (jO t)) (an (decide ((jO t).map (·.1)).Nodup) (!(t==sysModules))))))
def iX(K:Frag)(t:Nat):Bool:=match K.lookup t with
 |some o=>V7 o t
 |none=>false
theorem QA(P:Params):iX (Kf P) 54=true:=by kernel_rfl
theorem QB(P:Params):iX (Kf P) 55=true:=by kernel_rfl
section
variable{l:LS}{st:MS}{s:Shared}{E:Value→Shared→Prop}
theorem mK{w:Wd}{es:List DictEntry}{ps:List (Int×Int)}(h:tK es ps=true):∃zw:List (Int×Value),Pairs (intKind pg w.w) es zw∧(∀e ∈ es,∃k,(intKind pg w.w).is k e.key=true∧e.hash=(intKind pg w.w).hash k)∧zw.map (·.1)=ps.map (·.1)∧
  ∀k,match AL k ps with|none=>valueAt zw k=none|some v=>∃t,valueAt zw k=some (.int v t):=by
 induction es generalizing ps with
 |nil=>
  cases ps with
  |nil=>exact⟨[],.nil,fun _ h=>(nomatch h),rfl,fun k=>rfl⟩
  |cons p q=>exact cM h
 |cons e r ih=>
  cases ps with
  |nil=>exact cM h
  |cons p q=>
   obtain⟨h1,h2⟩:=cO h;obtain⟨h1,hh⟩:=cO h1;obtain⟨hk,hv⟩:=cO h1;obtain⟨t,ek⟩:=tJ (Pw hk);obtain⟨u,ev⟩:=tJ (Pw hv);obtain⟨eh,key,val⟩:=e;obtain rfl:key=.int p.1 t:=ek;obtain rfl:val=.int p.2 u:=ev;obtain rfl:eh=hashInt p.1:=of_decide_eq_true hh;obtain⟨zw,g1,g2,g3,g4⟩:=ih h2
   have is:(intKind pg w.w).is p.1 (.int p.1 t)=true:=by show Value.isInt p.1 (.int p.1 t)=true;simp [Value.isInt]
   refine⟨(p.1,.int p.2 u)::zw,.cons is rfl g1,fcZ ⟨⟨p.1,is,rfl⟩,g2⟩,congrArg (p.1::·) g3,fun k=>?_⟩
   have:=g4 k;simp only [AL,kD,valueAt,List.find?_cons]
   by_cases hk:p.1=k
   ·simp [hk]
   ·have e1:(p.1==k)=false:=bfZ hk;simp only [e1,decide_eq_false hk];exact this
theorem Now.top(S:Sit w F)(n:Now w F.h₀ F.L m X l st s){t:Nat}(hc:iX (Kf w.params) t=true):∃zw:List (Int×Value),(t==sysModules)=false∧s.heap.DictOf (intKind pg w.w) t zw∧∀k,match AL k (jO t)with|none=>valueAt zw k=none|some v=>∃u,valueAt zw k=some (.int v u):=by
 unfold iX at hc
 cases hl:(Kf w.params).lookup t with
 |none=>
  rw [hl]at hc;exact cM hc
 |some o=>
  rw [hl]at hc;obtain⟨es,ep,hd,h⟩:=dDI hc;obtain⟨h1,h⟩:=cO h;obtain⟨h2,h⟩:=cO h;obtain⟨h3,h⟩:=cO h;obtain⟨h4,h⟩:=cO h;obtain⟨h5,h6⟩:=cO h;obtain⟨zw,g1,g2,g3,g4⟩:=mK (w:=w) h4
  exact⟨zw,by simpa using h6,⟨o,es,ep,n.F.keep _ _ (S.K _ _ hl),⟨Py h1,Option.isNone_iff_eq_none.mp h2,by simpa using h3⟩,hd,fun e he=>g2 e (Array.mem_toList_iff.mpr he),g1,by rw [g3];exact of_decide_eq_true h5⟩,g4⟩
theorem f0{k:Int}{t:Nat}{r:Option Int}(e:qi k t=some r)(P:Params):iX (Kf P) t=true∧r=AL k (jO t):=by
 obtain⟨h,e⟩:=fU e;refine⟨?_,(oiZ e).symm⟩
 by_cases h54:t=54
 ·exact h54 ▸QA P
 ·by_cases h55:t=55
  ·exact h55 ▸QB P
  ·have:jO t=[]:=by
    unfold jO;split
    ·exact absurd rfl h54
    ·exact absurd rfl h55
    ·rfl
   unfold pC at h;rw [this]at h;exact cM h
theorem GP(S:Sit w F)(n:Now w F.h₀ F.L m X l st s){A:Around}{k:Int}{u:Tok}{t:Nat}{r:Option Int}(e:qi k t=some r)(h:∀t,Q (.bool r.isSome) {s with toks:=t}):wpAny (M w) A (compareOp .In (.int k u) (.ref t)) Q E s:=by
 obtain⟨hc,rfl⟩:=f0 e w.params;obtain⟨zw,h1,h2,h3⟩:=n.top S hc
 refine wpAny_in_of (knd:=intKind pg w.w) (k:=k) (by show Value.isInt k (.int k u)=true;simp [Value.isInt]) h1 h2.mapOf ?_
 have:=h3 k;split at this
 ·rename_i q;rw [this];rw [q]at h;exact h _
 ·rename_i q;obtain⟨x,hx⟩:=this;rw [hx];rw [q]at h;exact h _
theorem qs(S:Sit w F)(n:Now w F.h₀ F.L m X l st s){A:Around}{k:Int}{u:Tok}{t:Nat}{r:Option Int}(e:qi k t=some r)(h:∀t,Q (.bool (!r.isSome)) {s with toks:=t}):wpAny (M w) A (compareOp .NotIn (.int k u) (.ref t)) Q E s:=by
 obtain⟨hc,rfl⟩:=f0 e w.params;obtain⟨zw,h1,h2,h3⟩:=n.top S hc
 refine wpAny_notIn_of (knd:=intKind pg w.w) (k:=k) (by show Value.isInt k (.int k u)=true;simp [Value.isInt]) h1 h2.mapOf ?_
 have:=h3 k;split at this
 ·rename_i q;rw [this];rw [q]at h;exact h _
 ·rename_i q;obtain⟨x,hx⟩:=this;rw [hx];rw [q]at h;exact h _
theorem wc(n:Now w F.h₀ F.L m X l st s){A:Around}{a b:MV}{v u:Value}{c:Bool}(ha:l.VR a v)(hb:l.VR b u)(e:PT a b=some c)(h:Q (.bool c) s):wpAny (M w) A (compareOp .NotEq v u) Q E s:=by
 have V:(∀x,a≠ .bool x)→(∀x,a≠ .tup x)→a≠ .none→Al ((bP a b).map (!·)) fun c=>Q (.bool c) s→wpAny (M w) A (compareOp .NotEq v u) Q E s:=fun n1 n2 n3=>.mp fun p hp h=>by
  cases w8 hp with
  |none=>exact absurd rfl n3
  |bool x y=>exact absurd rfl (n1 x)
  |tup e=>exact absurd rfl (n2 _)
  |str x y=>
   obtain⟨t,rfl⟩:=ha.strI;obtain⟨t',rfl⟩:=hb.strI;refine P.ne_str ?_
   have e2:(!sq x y)=(x.cps.toList !=y.cps.toList):=by rw [tA,bne,str_beq]
   exact e2 ▸h
  |num i1 i2 e=>
   obtain⟨i,t,rfl,k1⟩:=ha.numI i1;obtain⟨j,u,rfl,k2⟩:=hb.numI i2;rw [ey n.H.kn n.H.kb k1 k2 e]at h;exact P.ne_int h
 refine (?_:Al (PT a b) fun c=>Q (.bool c) s→wpAny (M w) A (compareOp .NotEq v u) Q E s) c e h
 cases a with
 |bool x=>
  obtain rfl:=ha.boolI
  refine .ob fun y hy=>.so fun h=>?_
  obtain rfl:=VR.boolI (sZ hy ▸hb);refine ne_bool ?_
  have:Bool.xor x y=(x !=y):=by cases x <;>cases y <;>rfl
  exact this ▸h
 |tup=>exact .no
 |none=>exact .no
 |_=>exact V (fun _ q=>nomatch q) (fun _ q=>nomatch q) fun q=>nomatch q
theorem GQ(n:Now w F.h₀ F.L m X l st s){A:Around}{op:CmpOp}{a b:MV}{v u:Value}{c:Bool}(ha:l.VR a v)(hb:l.VR b u)(e:Uy op a b=some c)(h:Q (.bool c) s):wpAny (M w) A (compareOp op v u) Q E s:=by
 have C:∀(x y:Int) (t u:Tok),Al (wT op x y) fun c=>Q (.bool c) s→wpAny (M w) A (compareOp op (.int x t) (.int y u)) Q E s:=fun x y t u=>by
  cases op with
  |Lt=>exact .so fun h=>P.lt_int (ltB_eq ▸h)
  |LtE=>exact .so fun h=>P.le_int (leB_eq ▸h)
  |Gt=>exact .so fun h=>P.gt_int (ltB_eq ▸h)
  |GtE=>exact .so fun h=>P.ge_int (leB_eq ▸h)
  |_=>exact .no
 have X1:∀(x y:Int),25≤y→∀c,ZY op x=some c→wT op x y=some c:=fun x y hy=>by
  have B:∀{r:Bool} {p q:Bool},(p=true→q=r)→Al (gd p (some r)) fun c=>some q=some c:=fun k=>.gd fun h=>.so (congrArg some (k h))
  cases op with
  |Lt=>exact B fun h=>(PySem.W.Z.ltB_iff _ _).mpr (Int.lt_of_lt_of_le ((PySem.W.Z.ltB_iff _ _).mp h) hy)
  |LtE=>exact B fun h=>(PySem.W.Z.leB_iff _ _).mpr (Int.le_trans ((PySem.W.Z.leB_iff _ _).mp h) hy)
  |Gt=>exact B fun h=>ltB_eq.trans (decide_eq_false (Int.not_lt.mpr (Int.le_trans ((PySem.W.Z.leB_iff _ _).mp h) hy)))
  |GtE=>exact B fun h=>leB_eq.trans (decide_eq_false (Int.not_le.mpr (Int.lt_of_lt_of_le ((PySem.W.Z.ltB_iff _ _).mp h) hy)))
  |_=>exact Al.no
 have X2:∀(x y:Int),25≤x→∀c,ZX op y=some c→wT op x y=some c:=fun x y hy=>by
  have B:∀{r:Bool} {p q:Bool},(p=true→q=r)→Al (gd p (some r)) fun c=>some q=some c:=fun k=>.gd fun h=>.so (congrArg some (k h))
  cases op with
  |Lt=>exact B fun h=>ltB_eq.trans (decide_eq_false (Int.not_lt.mpr (Int.le_trans ((PySem.W.Z.leB_iff _ _).mp h) hy)))
  |LtE=>exact B fun h=>leB_eq.trans (decide_eq_false (Int.not_le.mpr (Int.lt_of_lt_of_le ((PySem.W.Z.ltB_iff _ _).mp h) hy)))
  |Gt=>exact B fun h=>(PySem.W.Z.ltB_iff _ _).mpr (Int.lt_of_lt_of_le ((PySem.W.Z.ltB_iff _ _).mp h) hy)
  |GtE=>exact B fun h=>(PySem.W.Z.leB_iff _ _).mpr (Int.le_trans ((PySem.W.Z.leB_iff _ _).mp h) hy)
  |_=>exact Al.no
 refine (?_:Al (Uy op a b) fun c=>Q (.bool c) s→wpAny (M w) A (compareOp op v u) Q E s) c e h
 refine .num (fun x hx=>?_) fun t ht=>?_
 ·obtain⟨t,rfl⟩:=VR.intI (hx ▸ha)
  refine .num (fun y hy=>?_) fun t' ht c e=>?_
  ·obtain⟨t',rfl⟩:=VR.intI (hy ▸hb);exact C x y _ _
  ·obtain⟨k,u,rfl,q⟩:=VR.kdI (ht ▸hb);exact C x k _ _ c (X1 x k (n.kb q) c e)
 ·obtain⟨k,u,rfl,q⟩:=VR.kdI (ht ▸ha)
  refine .ob fun y hy c e=>?_
  obtain⟨t',rfl⟩:=VR.intI (bd hy ▸hb);exact C k y _ _ c (X2 k y (n.kb q) c e)
theorem VR.noneV{as:List Addr}{ks:List (Bool×Int)}{im:List (Addr×Obj)}{a:MV}(h:VR as ks im a .none):a=.none∨a=.anyv:=by
 cases h
 ·exact .inl rfl
 ·exact .inr rfl
theorem iY{as:List Addr}{ks:List (Bool×Int)}{im:List (Addr×Obj)}{a:MV}{v:Value}(h:VR as ks im a v):Al (isNone a) fun b=>(v==.none)=b:=by
 cases a with
 |none=>rw [h.noneI];exact .so rfl
 |anyv=>exact .no
 |_=>refine .so (bfZ fun q=>?_);subst q;rcases h.noneV with q|q <;>cases q
theorem pU(S:Sit w F)(R:F.A.units+100 < cLine)(n:Now w F.h₀ F.L m X l st s){op:CmpOp}{a b:MV}{v u:Value}{c:Bool}(ha:l.VR a v)(hb:l.VR b u)(e:ck st op a b=some c)(h:∀t,Q (.bool c) {s with toks:=t}):wpAny (M w) F.A (compareOp op v u) Q E s:=by
 have hu:F.A.units+60 < cLine:=by lia
 have h10:F.A.units+10 < cLine:=by lia
 refine (?_:Al (ck st op a b) fun c=>(∀t,Q (.bool c) {s with toks:=t})→wpAny (M w) F.A (compareOp op v u) Q E s) c e h
 cases op with
 |Eq=>exact fun c e h=>((wb n 40 F.A (by lia)).1 _ _ _ _ _ ha hb e).1 pg w.w E Q (h s.toks)
 |NotEq=>exact fun c e h=>wc n ha hb e (h s.toks)
 |Is=>
  refine .gd fun q c e h=>?_
  obtain rfl:=VR.noneI (wX q ▸hb);refine is_none ?_;exact (iY ha c e).symm ▸h s.toks
 |IsNot=>
  refine .gd fun q=>.mp fun c e h=>?_
  obtain rfl:=VR.noneI (wX q ▸hb);refine isNot_none ?_;exact (iY ha c e).symm ▸h s.toks
 |In=>
  cases b with
  |tup vs=>
   intro c e h;obtain⟨x,ws,rfl,_,hT,hR,_⟩:=n.tupl hb;obtain⟨f,f1,f2⟩:=hZ n (A:=F.A) hu hR ha e;exact in_tupleAt f hT f1 (f2.symm ▸h s.toks)
  |ref r=>
   refine .ob fun o h1=>?_
   cases o with
   |list vs=>
    intro c e h;obtain⟨x,ws,ep,rfl,_,hT,hR,_⟩:=n.lst hb h1;obtain⟨f,f1,f2⟩:=hZ n (A:=F.A) hu hR ha e;exact in_listAt f hT f1 (f2.symm ▸h s.toks)
   |dict es=>exact .mp fun o ho h=>in_dict n h10 hb h1 ha ho h
   |_=>exact .no
  |top t=>
   refine .ob fun k hk=>.mp fun o ho h=>?_
   obtain⟨_,rfl⟩:=VR.intI (bd hk ▸ha);obtain rfl:=hb.topI;exact GP S n ho h
  |_=>exact .no
 |NotIn=>
  refine .mp ?_
  cases b with
  |tup vs=>
   intro c e h;obtain⟨x,ws,rfl,_,hT,hR,_⟩:=n.tupl hb;obtain⟨f,f1,f2⟩:=hZ n (A:=F.A) hu hR ha e;exact notIn_tupleAt f hT f1 (f2.symm ▸h s.toks)
  |ref r=>
   show Al _ _
   refine .ob fun o h1=>?_
   cases o with
   |list vs=>
    intro c e h;obtain⟨x,ws,ep,rfl,_,hT,hR,_⟩:=n.lst hb h1;obtain⟨f,f1,f2⟩:=hZ n (A:=F.A) hu hR ha e;exact notIn_listAt f hT f1 (f2.symm ▸h s.toks)
   |dict es=>exact .mp fun o ho h=>oB n h10 hb h1 ha ho h
   |_=>exact .no
  |top t=>
   show Al _ _
   refine .ob fun k hk=>.mp fun o ho h=>?_
   obtain⟨_,rfl⟩:=VR.intI (bd hk ▸ha);obtain rfl:=hb.topI;exact qs S n ho h
  |_=>exact fun c e=>aF e
 |_=>exact fun c e h=>GQ n ha hb e (h s.toks)
end
section
open PySem.MeetsSeq PySem.MeetsSeq2 PySem.MeetsSeq3
theorem gH:fillsNumberSlot (.type "tuple") "mul"=pure false:=
 PySem.fillsNumberSlot_seq (id:="tuple.__mul__") (r:=some (.builtin "tuple.__rmul__")) F.slot_tuple_mul.lookup (by decide+kernel) (by rw [typeLookup_type,builtinLookup_eq_fast];kernel_rfl) (by decide+kernel)
theorem kG:seqRepeat? (.type "tuple")=pure (some (.builtin "tuple.__mul__")):=by
 unfold seqRepeat?
 rw [PySem.seqSlot_of (T:="tuple") (name:="__mul__") (id:="tuple.__mul__") F.slot_tuple_mul.lookup (by decide+kernel),PySem.seqSlot_of (T:="tuple") (name:="__rmul__") (id:="tuple.__rmul__") (by rw [typeLookup_type,builtinLookup_eq_fast];kernel_rfl) (by decide+kernel)]
 rfl
theorem iZ(a:Int)(t:Tok)(l:Addr)(items:Array Value)(n:Nat):
  Meets (Builtin.«int.__rmul__» ⟨[.int a t,.ref l],[]⟩) (fun _ R s=>s.heap.get? l=some {cls:=.type "tuple",dict:=none,data:=.seq items n,slots:=#[]}∧R (.ok (.ret Value.notImplemented)) s):=
 .of_wp fun prog w A R s h=>by obtain⟨hp,g,d,tk,os⟩:=s;obtain⟨hl,h⟩:=h;wp_walk;exact⟨_,rfl,h⟩
theorem oC(l:Addr)(items:Array Value)(n:Nat)(t:Tok)(hne:items.isEmpty=false):
  Meets (Builtin.«tuple.__mul__» ⟨[.ref l,.int 0 t],[]⟩) (fun _ R s=>s.heap.get? l=some {cls:=.type "tuple",dict:=none,data:=.seq items n,slots:=#[]}∧R (.ok (.ret (.ref s.heap.objs.size))) {s with heap:=s.heap.push {cls:=.type "tuple",data:=.seq #[]}}):=
 .of_wp fun prog w A R s h=>by
  obtain⟨hp,g,d,tk,os⟩:=s;obtain⟨hl,h⟩:=h
  wp_walk using PySem.AutoSeq1.wpAny_loadPart' hl
  exact⟨_,rfl,h⟩
section
variable{w:World}{E:Value→Shared→Prop}{s:Shared}
theorem oD{l:Addr}{items:Array Value}{k:Nat}{u:Tok}{Q:Value→Shared→Prop}(hne:items.isEmpty=false)
  (hl:s.heap.get? l=some {cls:=.type "tuple",dict:=none,data:=.seq items k,slots:=#[]})
  (h:Q (.ref s.heap.objs.size) {s with heap:=s.heap.push {cls:=.type "tuple",data:=.seq #[]}}):
  wpAny (model prog w) A (binaryOp .Mult (.ref l) (.int 0 u)) Q E s:=
 wpAny_binaryOp_repeat_ref (T:="tuple") (U:="int") (by decide) ⟨_,hl,rfl⟩ (fun s'=>typeIs_int s' 0 u) gH F.fills_int_mul F.slot_int_rmul kG F.slot_int_index.lookup
  (call_meets F.slot_int_rmul (typeIs_int s 0 u) F.entry_int_rmul (F.args_int_rmul_2 _ _) (iZ 0 u l items k)
   ⟨hl,rfl,⟨_,hl,rfl⟩,call_meets F.slot_tuple_mul ⟨_,hl,rfl⟩ F.entry_tuple_mul (F.args_tuple_mul_2 _ _)
    (oC l items k u hne) ⟨hl,h⟩⟩)
end
end
section
variable{l:LS}{st:MS}{s:Shared}{E:Value→Shared→Prop}
theorem qt(a b:Nat):Builtin.bitOr (a:Int) (b:Int)=((a ||| b:Nat):Int):=by
 unfold Builtin.bitOr Builtin.bitAnd Builtin.bitNot
 have h1:decide (0≤ -(a:Int) - 1)=false:=decide_eq_false (by lia)
 have h2:decide (0≤ -(b:Int) - 1)=false:=decide_eq_false (by lia)
 rw [h1,h2];simp only
 have e1: -(-(a:Int) - 1) - 1=a:=by lia
 have e2: -(-(b:Int) - 1) - 1=b:=by lia
 rw [e1,e2];simp only [Int.toNat_natCast]
 lia
theorem oE(a b:Nat):Builtin.bitAnd (a:Int) (b:Int)=((a &&& b:Nat):Int):=by
 unfold Builtin.bitAnd
 have h1:decide (0≤(a:Int))=true:=decide_eq_true (by lia)
 have h2:decide (0≤(b:Int))=true:=decide_eq_true (by lia)
 rw [h1,h2];simp
theorem qu(ws:List Value):∀n,(List.foldl (fun x1 x2=>x1++x2) #[] (List.replicate (if ws.toArray.isEmpty=true then 0 else n) ws.toArray))=(List.replicate n ws).flatten.toArray:=by
 intro n;rw [listMul_foldl]
 cases ws with
 |nil=>simp
 |cons a r=>simp
theorem pW{α β:Type}(vs:List MV)(ws:List Value)(h:vs.length=ws.length):∀n,(jt vs n).length=ws.length * n
 |0=>by simp [jt]
 |n+1=>by simp [jt,pW (α:=α) (β:=β) vs ws h n,h,Nat.mul_add,Nat.add_comm]
theorem wd(S:Sit w F)(R:F.A.depth < 890)(n:Now w F.h₀ F.L m X l st s){op:Operator}{a b v:MV}{x y:Value}(ha:l.VR a x)(hb:l.VR b y)(e:qj st op a b=some (v,st'))(h:Goes w F m X l s v st' Q):
  wpAny (M w) F.A (binaryOp op x y) Q E s:=by
 refine (?_:Al (qj st op a b) fun p=>Goes w F m X l s p.1 p.2 Q→wpAny (M w) F.A (binaryOp op x y) Q E s) (v,st') e h
 have I:∀{f:Int→Int→MR} {P:MV×MS→Prop},(∀i j t u,x=.int i t→y=.int j u→Al (f i j) P)→Al (ob (b8 a) fun i=>ob (b8 b) fun j=>f i j) P:=fun k=>.ob fun i hi=>.ob fun j hj=>by
  obtain⟨t,e1⟩:=VR.intI (bd hi ▸ha);obtain⟨u,e2⟩:=VR.intI (bd hj ▸hb);exact k i j t u e1 e2
 have N:∀{f:Nat→Nat→MR} {P:MV×MS→Prop},(∀(i j:Nat) t u,x=.int i t→y=.int j u→Al (f i j) P)→Al (ob (dn a) fun i=>ob (dn b) fun j=>f i j) P:=fun k=>.ob fun i hi=>.ob fun j hj=>by
  obtain⟨t,e1⟩:=VR.intI (fV hi ▸ha);obtain⟨u,e2⟩:=VR.intI (fV hj ▸hb);exact k i j t u e1 e2
 have G:∀{z:Int},Goes w F m X l s (.int z) st Q→∀t k,Q (.int z t) {s with toks:=k}:=fun h t k=>h _ _ l (n.toks _) Ext.rfl' Same.mk' (.int _ _)
 cases op with
 |Add=>
  refine I fun i j t u e1 e2=>.so fun h=>?_
  subst e1 e2;exact P.add_int (G h _ _)
 |Sub=>
  refine I fun i j t u e1 e2=>.so fun h=>?_
  subst e1 e2;exact P.sub_int (G h _ _)
 |Mod=>
  refine I fun i j t u e1 e2=>.gd fun q=>.so fun h=>?_
  subst e1 e2;have q:=(PySem.W.Z.ltB_iff _ _).mp q;refine mod_int' (Int.ne_of_gt q) ?_;rw [Int.fmod_eq_emod_of_nonneg _ (Int.le_of_lt q)];exact G h _ _
 |FloorDiv=>
  refine I fun i j t u e1 e2=>.gd fun q=>.so fun h=>?_
  subst e1 e2;have q:=(PySem.W.Z.ltB_iff _ _).mp q
  refine floordiv_int (Int.ne_of_gt q) ?_ (Or.inr (PySem.PylongRoom.of (S.T.nolimit.keeps n.F.keep) (by show F.A.depth+100 < 1000;lia) (PySem.SeerAt.of (PySem.Heap.NoSeer.keeps (PyProof.Rows.Top.seer S.T (by decide+kernel)) n.F.keep) rfl S.fr S.gen S.co rfl rfl)))
  rw [Int.fdiv_eq_ediv_of_nonneg _ (Int.le_of_lt q)];exact G h _ _
 |BitAnd=>
  refine N fun i j t u e1 e2=>.so fun h=>?_
  subst e1 e2;exact and_int (oE i j ▸G h _ _)
 |BitOr=>
  refine N fun i j t u e1 e2=>.so fun h=>?_
  subst e1 e2;exact or_int (qt i j ▸G h _ _)
 |Mult=>
  refine .ob fun k hk=>?_
  obtain⟨t,rfl⟩:=VR.intI (fV hk ▸hb)
  cases a with
  |tup vs=>
   refine .gd fun q0=>.gd fun q=>.so fun h=>?_
   obtain rfl:=ebZ q;obtain⟨ad,ws,rfl,hi,hs,hl⟩:=ha.tupI;refine oD ?_ (n.N _ (mrZ _ (mlZ _ hi))).1 (h (.ref s.heap.objs.size) _ (l.addT s.heap.objs.size []) (n.pushT (t:=s.toks) []) (Ext.addT _ _ _) Same.mk' (.tup (.head _) .nil (Nat.zero_le _)))
   cases vs with
   |nil=>exact cM q0
   |cons v vs=>
    obtain⟨_,_,rfl,_⟩:=hs.consI;simp
  |ref r=>
   refine .ob fun vs h1=>.ok fun hk=>.ok fun hk2=>.so fun h=>?_
   obtain⟨a,ws,ep,rfl,hg,hT,hR,hl⟩:=n.lst ha (gr h1);have hm:=(n.N _ (mlZ _ (moZ hg))).1;have zr:=pW (α:=Unit) (β:=Unit) vs ws hR.length k
   have hgo:=n.push S (o:=listOf (List.replicate k ws).flatten.toArray 0) (mo:=.list (jt vs k)) rfl (.list ((hR.mono (paZ _ _) prZ fun _ h=>h).rep k) (by lia)) (t:=s.toks)
   refine mul_list (k:=ep) n.F n.N hm (by show -(2 ^ 63:Int)≤(k:Int);lia) (by show (k:Int) < 2 ^ 63;lia) (by show ws.toArray.size * k≤2 ^ 24;simp only [ymZ];lia) fun h' F' N'=>?_
   have hO:OR w.params (l.as++[s.heap.objs.size]) l.ks l.im (.list (jt vs k)) (listOf (List.replicate k ws).flatten.toArray 0):=.list ((hR.mono (paZ _ _) prZ fun _ h=>h).rep k) (by lia)
   have e0:=qu ws k
   have N'':News F.h₀ F.L h' ((s.heap.objs.size,listOf (List.replicate k ws).flatten.toArray 0)::(l.RL++(l.im++X))):=by rw [←e0];exact N'
   refine h (.ref s.heap.objs.size) _ (l.add s.heap.objs.size _) (n.add (t:=s.toks) F' N'' (fun p hp=>n.lt hp) (n.F.notModules (modules_low S.T.nolimit)) hO rfl) (Ext.add _ _ _) Same.mk' ?_
   refine .ref ?_;rw [LS.as_add,n.H.obj.length]
   show (l.as++[s.heap.objs.size])[l.RL.length]? =_
   have:l.as.length=l.RL.length:=by simp [LS.as]
   rw [←this];simp
  |_=>exact .no
 |_=>exact .no
end
noncomputable def pX:xpZ→Bool
 | .Starred .. =>false
 |_=>true
def bF(ev:Cx→Loc→MS→xpZ→MR):Prop:=∀cx zl st e r,ev cx zl st e=some r→pX e=true∧cQ e=true
theorem bS{e:xpZ}{rest:List xpZ}{env:Env}(h:pX e=true):starEach (e::rest) env=(false,eval e env)::starEach rest env:=by
 cases e <;>first|rfl|cases h
section
variable{l:LS}{st:MS}{s:Shared}{E:Value→Shared→Prop}{ev:Cx→Loc→MS→xpZ→MR}
theorem we(S:Sit w F)(R:Room F.A d)(hE:bX w d ev)(hN:bF ev){pos:Pos}:∀{es:List xpZ} {l:LS} {st:MS} {s:Shared} {Q:List Value→Shared→Prop},Now w F.h₀ F.L m X l st s→LocR F X l zl m→
  Al (bU ev F.scope.names zl st es) fun p=>(∀ws s' l',Now w F.h₀ F.L m X l' p.2 s'→Ext l l'→Same s s'→l'.VRs p.1 ws→Q ws s')→wpAny (M w) F.A (spliced (backTo pos (starEach es F.env))) Q E s:=by
 intro es
 induction es with
 |nil=>exact fun n hl=>.so fun h=>args_nil (h _ _ _ n Ext.rfl' Same.rfl' .nil)
 |cons e₁ r ih=>
  intro l st s Q n hl
  refine .pb fun v zz e1=>.pb fun vs' st2 e2=>.so fun h=>?_
  refine args_cons ?_ (bS (hN _ _ _ _ _ e1).1)
  refine hE F S R m X l st s zl e₁ v zz e1 n hl _ _ fun v' s1 l1 n1 x1 m1 r1=>?_
  refine ih n1 (hl.mono x1) _ e2 fun ws s2 l2 n2 x2 m2 r2=>?_
  exact h _ _ l2 n2 (x1.trans x2) (m1.trans m2) (.cons (x2.vr r1) r2)
theorem eA(S:Sit w F)(R:Room F.A d)(hE:bX w d ev)(hN:bF ev){pos:Pos}{es:List xpZ}{l:LS}{st st':MS}{s:Shared}{vs:List MV}{Q:List Value→Shared→Prop}(e:bU ev F.scope.names zl st es=some (vs,st'))(n:Now w F.h₀ F.L m X l st s)(hl:LocR F X l zl m)
  (h:∀ws s' l',Now w F.h₀ F.L m X l' st' s'→Ext l l'→Same s s'→l'.VRs vs ws→Q ws s'):wpAny (M w) F.A (spliced (backTo pos (starEach es F.env))) Q E s:=we S R hE hN n hl _ e h
theorem j3{n:Nat}(h:n < 1048576):n≤sizeLine:=by rw [sizeLine_eq];lia
theorem qv(S:Sit w F)(R:Room F.A d)(hE:bX w d ev)(hN:bF ev){es:List xpZ}{k:Nat}{pos:Pos}{vs:List MV}(e:bU ev F.scope.names zl st es=some (vs,st'))(hk:vs.length < 1048576)(n:Now w F.h₀ F.L m X l st s)(hl:LocR F X l zl m)
  (h:Goes w F m X l s (.tup vs) st' Q):wpAny (M w) F.A (eval (.Tuple es k pos) F.env) Q E s:=by
 refine wpAny_Tuple (eA S R hE hN e n hl fun ws s' l' n' x' m' r'=>⟨by rw [←r'.length];exact j3 hk,?_⟩)
 exact h _ _ (l'.addT s'.heap.objs.size ws) (n'.pushT (t:=s'.toks) ws) (x'.trans (Ext.addT _ _ _)) (m'.trans Same.mk') (.tup (.head _) (r'.mono prZ prZ fun _ h=>.tail _ h) (by lia))
theorem Now.newRef(n:Now w F.h₀ F.L m X l st s)(a:Addr)(o:Obj):(l.add a o).VR (.ref st.H.length) (.ref a):=by
 refine .ref ?_
 rw [LS.as_add,n.H.obj.length,←List.length_map (as:=l.RL) (·.1)]
 exact List.getElem?_concat_length
theorem tL(S:Sit w F)(R:Room F.A d)(hE:bX w d ev)(hN:bF ev){es:List xpZ}{pos:Pos}{vs:List MV}(e:bU ev F.scope.names zl st es=some (vs,st'))(hk:vs.length < 1048576)(n:Now w F.h₀ F.L m X l st s)(hl:LocR F X l zl m)
  (h:Goes w F m X l s (.ref st'.H.length) (psh st' (.list vs)) Q):wpAny (M w) F.A (eval (.List es pos) F.env) Q E s:=by
 refine wpAny_List (eA S R hE hN e n hl fun ws s' l' n' x' m' r'=>⟨by rw [←r'.length];exact j3 hk,?_⟩)
 refine h _ _ (l'.add s'.heap.objs.size (listOf ws.toArray 0)) (n'.push (t:=s'.toks) S rfl (.list (r'.mono (paZ _ _) prZ fun _ h=>h) (by lia))) (x'.trans (Ext.add _ _ _)) (m'.trans Same.mk') (n'.newRef _ _)
theorem tM(S:Sit w F){pos:Pos}(n:Now w F.h₀ F.L m X l st s)(h:Goes w F m X l s (.ref st.H.length) (psh st (.dict [])) Q):wpAny (M w) F.A (eval (.Dict [] [] pos) F.env) Q E s:=by
 refine wpAny_Dict_empty ?_
 refine h _ _ (l.add s.heap.objs.size (dictOf [] 0)) (n.push (t:=s.toks) S rfl (.ndict .nil (by simp) fun w=>?_)) (Ext.add _ _ _) Same.mk' (n.newRef _ _)
 exact⟨#[],0,⟨rfl,rfl,rfl⟩,rfl,fun _ h=>by simp at h,.nil,by simp⟩
end
noncomputable def oF:xpZ→Bool
 | .Set .. =>false
 |_=>true
def gf(ev:Cx→Loc→MS→xpZ→MR):Prop:=∀cx zl st e r,ev cx zl st e=some r→oF e=true
theorem pY{op:CmpOp}{e:xpZ}(h:oF e=true):behindInMarks op e=false:=by cases e <;>first|rfl|cases h
section
variable{l:LS}{st:MS}{s:Shared}{E:Value→Shared→Prop}
theorem Room.u{A:Around}(R:Room A d):A.units+100 < cLine:=by have:=R.2;show A.units+100 < 9900;lia
theorem Goes.step{w:Wd}{F:Fm}{m:Str→Option Value}{X:List (Addr×Obj)}{l l':LS}{s s':Shared}{v:MV}{st':MS}{Q:Value→Shared→Prop}(h:Goes w F m X l s v st' Q)(x:Ext l l')(y:Same s s'):Goes w F m X l' s' v st' Q:=fun v' s'' l'' n x' y' r=>h v' s'' l'' n (x.trans x') (y.trans y') r
theorem iA(S:Sit w F)(R:Room F.A d)(hE:bX w d ih.ev){a b:xpZ}{x y:MV}{zz st2:MS}(e1:ih.ev F.scope.names zl st a=some (x,zz))(e2:ih.ev F.scope.names zl zz b=some (y,st2))(n:Now w F.h₀ F.L m X l st s)(hl:LocR F X l zl m)
  {P:Value→Value→Shared→Prop} (h:∀x' y' s' l',Now w F.h₀ F.L m X l' st2 s'→Ext l l'→Same s s'→l'.VR x x'→l'.VR y y'→P x' y' s'):
  wpAny (M w) F.A (eval a F.env) (fun o s1=>wpAny (M w) F.A (eval b F.env) (fun i s2=>P o i s2) E s1) E s:=
 hE F S R m X l st s zl a x zz e1 n hl _ _ fun x' s1 l1 n1 x1 m1 r1=>
  hE F S R m X l1 zz s1 zl b y st2 e2 n1 (hl.mono x1) _ _ fun y' s2 l2 n2 x2 m2 r2=>h x' y' s2 l2 n2 (x1.trans x2) (m1.trans m2) (x2.vr r1) r2
theorem mL(S:Sit w F)(R:Room F.A d)(hE:bX w d ih.ev)(hS:gf ih.ev){a b:xpZ}{op:CmpOp}{pos:Pos}{x y:MV}{zz:MS}{c:Bool}(e1:ih.ev F.scope.names zl st a=some (x,zz))(e2:ih.ev F.scope.names zl zz b=some (y,st'))(e3:ck st' op x y=some c)(n:Now w F.h₀ F.L m X l st s)(hl:LocR F X l zl m)
  (h:Goes w F m X l s (.bool c) st' Q):wpAny (M w) F.A (eval (.Compare a [op] [b] pos) F.env) Q E s:=
 wpAny_Compare1 (iA S R hE e1 e2 n hl fun x' y' s' l' n' x1 m1 r1 r2=>pU S R.u n' r1 r2 e3 fun t=>h _ _ l' (n'.toks t) x1 (m1.trans Same.mk') (.bool c)) (pY (hS _ _ _ _ _ e2))
theorem kH(S:Sit w F)(R:Room F.A d)(hE:bX w d ih.ev)(hS:gf ih.ev){a b:xpZ}{op:CmpOp}{pos:Pos}{x y:MV}{zz:MS}{c:Bool}{whole:Sem Value}{Q:Bool→Shared→Prop}(e1:ih.ev F.scope.names zl st a=some (x,zz))(e2:ih.ev F.scope.names zl zz b=some (y,st'))(e3:ck st' op x y=some c)(n:Now w F.h₀ F.L m X l st s)(hl:LocR F X l zl m)
  (h:∀s' l',Now w F.h₀ F.L m X l' st' s'→Ext l l'→Same s s'→Q c s'):wpAny (M w) F.A (isTrue (.Compare a [op] [b] pos) F.env whole) Q E s:=
 wpAny_isTrue_Compare1 (iA S R hE e1 e2 n hl fun x' y' s' l' n' x1 m1 r1 r2=>pU S R.u n' r1 r2 e3 fun t=>wpAny_truthy_bool (h _ l' (n'.toks t) x1 (m1.trans Same.mk'))) (pY (hS _ _ _ _ _ e2))
theorem qw(S:Sit w F)(R:Room F.A d)(hE:bX w d ih.ev){a b:xpZ}{op:Operator}{pos:Pos}{x y v:MV}{zz st2:MS}(e1:ih.ev F.scope.names zl st a=some (x,zz))(e2:ih.ev F.scope.names zl zz b=some (y,st2))(e3:qj st2 op x y=some (v,st'))(n:Now w F.h₀ F.L m X l st s)(hl:LocR F X l zl m)
  (h:Goes w F m X l s v st' Q):wpAny (M w) F.A (eval (.BinOp a op b pos) F.env) Q E s:=
 wpAny_BinOp (iA S R hE e1 e2 n hl fun x' y' s' l' n' x1 m1 r1 r2=>wd S (by have:=R.1;lia) n' r1 r2 e3 (h.step x1 m1))
theorem wf(S:Sit w F)(R:Room F.A d)(hE:bX w d ih.ev)(hN:bF ih.ev){a b:xpZ}{pos:Pos}{x y v:MV}{zz:MS}(e1:ih.ev F.scope.names zl st a=some (x,zz))(e2:ih.ev F.scope.names zl zz b=some (y,st'))(e3:fT st' x y=some v)(n:Now w F.h₀ F.L m X l st s)(hl:LocR F X l zl m)
  (h:Goes w F m X l s v st' Q):wpAny (M w) F.A (eval (.Subscript a b pos) F.env) Q E s:=
 Subscript_ (iA S R hE e1 e2 n hl fun x' y' s' l' n' x1 m1 r1 r2=>tG S (by have:=R.u;lia) n' (hN _ _ _ _ _ e2).2 r1 r2 e3 (h.step x1 m1))
theorem mM{o:xpZ}(h:iR o=true)(attr:Str)(env:Env)(whole:Sem Value):attributeBase o attr env whole=whole:=by
 cases o with
 |Call f as ks pos=>
  cases as with
  |nil=>
   cases ks with
   |nil=>cases h
   |cons=>cases f <;>rfl
  |cons=>cases f <;>rfl
 |_=>rfl
theorem tN(S:Sit w F)(R:Room F.A d)(hE:bX w d ih.ev){a:xpZ}{y:Str}{pos:Pos}{x v:MV}(hb:iR a=true)(e1:ih.ev F.scope.names zl st a=some (x,st'))(e3:ll st' x y=some v)(n:Now w F.h₀ F.L m X l st s)(hl:LocR F X l zl m)
  (h:Goes w F m X l s v st' Q):wpAny (M w) F.A (eval (.Attribute a y pos) F.env) Q E s:=
 Attribute_any_ (hE F S R m X l st s zl a x st' e1 n hl _ _ fun x' s1 l1 n1 x1 m1 r1=>sx S n1 r1 e3 (h.step x1 m1)) (by rw [arm_eval_Attribute,mM hb])
theorem wg(S:Sit w F)(R:Room F.A d)(hE:bX w d ih.ev){a:xpZ}{pos:Pos}{x:MV}{b:Bool}(e1:ih.ev F.scope.names zl st a=some (x,st'))(e3:fR st' x=some b)(n:Now w F.h₀ F.L m X l st s)(hl:LocR F X l zl m)
  (h:Goes w F m X l s (.bool (!b)) st' Q):wpAny (M w) F.A (eval (.UnaryOp .Not a pos) F.env) Q E s:=
 wpAny_UnaryOp (hE F S R m X l st s zl a x st' e1 n hl _ _ fun x' s1 l1 n1 x1 m1 r1=>not_value (gG n1 r1 e3 fun t=>h _ _ l1 (n1.toks t) x1 (m1.trans Same.mk') (.bool _)))
theorem wh(S:Sit w F)(R:Room F.A d)(hE:bX w d ih.ev){a:xpZ}{pos:Pos}{i:Int}(e1:ih.ev F.scope.names zl st a=some (.int i,st'))(n:Now w F.h₀ F.L m X l st s)(hl:LocR F X l zl m)
  (h:Goes w F m X l s (.int (-i)) st' Q):wpAny (M w) F.A (eval (.UnaryOp .USub a pos) F.env) Q E s:=
 wpAny_UnaryOp (hE F S R m X l st s zl a _ st' e1 n hl _ _ fun x' s1 l1 n1 x1 m1 r1=>by
  obtain⟨t,rfl⟩:=r1.intI
  exact P.neg_int (h _ _ l1 (n1.toks _) x1 (m1.trans Same.mk') (.int _ _)))
theorem j4(S:Sit w F)(R:Room F.A d)(hE:bX w d ih.ev)(hT:nx w d ih.tst){t a b:xpZ}{pos:Pos}{c:Bool}{zz:MS}{v:MV}(e1:ih.tst F.scope.names zl st t=some (c,zz))(e2:ih.ev F.scope.names zl zz (if c then a else b)=some (v,st'))(n:Now w F.h₀ F.L m X l st s)(hl:LocR F X l zl m)
  (h:Goes w F m X l s v st' Q):wpAny (M w) F.A (eval (.IfExp t a b pos) F.env) Q E s:=
 wpAny_IfExp (hT F S R m X l st s zl t c zz e1 n hl _ _ fun s1 l1 n1 x1 m1=>by
  cases c <;>exact hE F S R m X l1 zz s1 zl _ v st' e2 n1 (hl.mono x1) _ _ (h.step x1 m1))
end
section
variable{E:Value→Shared→Prop}
theorem tO(S:Sit w F)(R:Room F.A d)(hT:nx w d ih.tst){op:PySem.BoolOp}:∀{es:List xpZ} {l:LS} {st:MS} {s:Shared} {Q:Bool→Shared→Prop},Now w F.h₀ F.L m X l st s→LocR F X l zl m→
  Al (cF ih F.scope.names zl op st es) fun p=>(∀s' l',Now w F.h₀ F.L m X l' p.2 s'→Ext l l'→Same s s'→Q p.1 s')→wpAny (M w) F.A (allTrue op es F.env) Q E s:=by
 intro es
 induction es with
 |nil=>
  intro l st s Q n hl
  refine .so fun h=>?_
  cases op
  ·exact wpAny_allTrue_And_nil (h s l n Ext.rfl' Same.rfl')
  ·exact wpAny_allTrue_Or_nil (h s l n Ext.rfl' Same.rfl')
 |cons e₁ r ih'=>
  intro l st s Q n hl
  refine .pb fun c zz e1 p e h=>?_
  cases op with
  |And=>
   refine wpAny_allTrue_And_cons (hT F S R m X l st s zl e₁ c zz e1 n hl _ _ fun s1 l1 n1 x1 m1=>?_)
   cases c with
   |false=>obtain rfl:=oiZ e;exact h s1 l1 n1 x1 m1
   |true=>exact ih' n1 (hl.mono x1) p e fun s2 l2 n2 x2 m2=>h s2 l2 n2 (x1.trans x2) (m1.trans m2)
  |Or=>
   refine wpAny_allTrue_Or_cons (hT F S R m X l st s zl e₁ c zz e1 n hl _ _ fun s1 l1 n1 x1 m1=>?_)
   cases c with
   |true=>obtain rfl:=oiZ e;exact h s1 l1 n1 x1 m1
   |false=>exact ih' n1 (hl.mono x1) p e fun s2 l2 n2 x2 m2=>h s2 l2 n2 (x1.trans x2) (m1.trans m2)
theorem mN(S:Sit w F)(R:Room F.A d)(hE:bX w d ih.ev){op:PySem.BoolOp}{pos:Pos}:∀{es:List xpZ} {l:LS} {st:MS} {s:Shared} {Q:Value→Shared→Prop},Now w F.h₀ F.L m X l st s→LocR F X l zl m→
  Al (dW ih F.scope.names zl op st es) fun p=>Goes w F m X l s p.1 p.2 Q→wpAny (M w) F.A (boolOp pos op (evalEach es F.env)) Q E s
 |[],l,st,s,Q,n,hl=>.no
 |[e₁],l,st,s,Q,n,hl=>fun p e h=>hE F S R m X l st s zl e₁ p.1 p.2 e n hl _ _ h
 |e₁::e₂::r,l,st,s,Q,n,hl=>by
  refine .pb fun x zz e1=>.ob fun b hb p e h=>?_
  show wpAny (M w) F.A (do
   let v ←eval e₁ F.env
   standAt pos
   let t ←holding [v] (truthy v)
   match op,t with
    | .And,false| .Or,true=>pure v
    |_,_=>boolOp pos op (evalEach (e₂::r) F.env)) Q E s
  refine wpAny_bind (hE F S R m X l st s zl e₁ x zz e1 n hl _ _ fun x' s1 l1 n1 x1 m1 r1=>?_)
  refine wpAny_bind (wpAny_standAt (wpAny_bind (wpAny_holding (gG n1 r1 hb fun t=>?_))))
  have n2:=n1.toks t
  have go:dW ih F.scope.names zl op zz (e₂::r)=some p→wpAny (M w) F.A (boolOp pos op (evalEach (e₂::r) F.env)) Q E {s1 with toks:=t}:=fun e=>mN S R hE n2 (hl.mono x1) p e (h.step x1 (m1.trans Same.mk'))
  have fin:some (x,zz)=some p→Q x' {s1 with toks:=t}:=fun e=>by
   obtain rfl:=oiZ e;exact h _ _ l1 n2 x1 (m1.trans Same.mk') r1
  cases op <;>cases b
  ·exact wpAny_pure (fin e)
  ·exact go e
  ·exact go e
  ·exact wpAny_pure (fin e)
end
section
theorem dE{e:xpZ}(h:iS e=true)(env:Env)(whole:Sem Value):isTrue e env whole=(do let v ←whole;standAt e.pos;holding [v] (truthy v)):=by
 cases e <;>first|rfl|cases h
theorem wi(hE:bX w d ih.ev)(hT:nx w d ih.tst)(hS:gf ih.ev):nx w d (iT ih):=by
 intro F S R m X l st s zl e b st' he n hl Q E h
 refine (?_:Al (iT ih F.scope.names zl st e) fun p=>(∀s' l',Now w F.h₀ F.L m X l' p.2 s'→Ext l l'→Same s s'→Q p.1 s')→wpAny (M w) F.A (isTrue e F.env (eval e F.env)) Q E s) (b,st') he h
 have D:iS e=true→Al (pb (ih.ev F.scope.names zl st e) fun v st=>(fR st v).map fun b=>(b,st)) fun p=>(∀s' l',Now w F.h₀ F.L m X l' p.2 s'→Ext l l'→Same s s'→Q p.1 s')→wpAny (M w) F.A (isTrue e F.env (eval e F.env)) Q E s:=fun hp=>
  by
  refine .pb fun v zz e1=>.mp fun k e3 h=>?_
  exact isTrue_plain (hE F S R m X l st s zl e v zz e1 n hl _ _ fun v' s1 l1 n1 x1 m1 r1=>gG n1 r1 e3 fun t=>h _ l1 (n1.toks t) x1 (m1.trans Same.mk')) (dE hp _ _)
 cases e with
 |UnaryOp op x pos=>
  delta iT
  cases op with
  |Not=>
   refine .pb fun c zz e1=>?_
   refine .so fun h=>?_
   exact wpAny_isTrue_Not (hT F S R m X l st s zl x c zz e1 n hl _ _ fun s1 l1 n1 x1 m1=>h s1 l1 n1 x1 m1)
  |_=>exact .no
 |BoolOp op vs pos=>
  delta iT
  exact fun p e h=>wpAny_isTrue_BoolOp (tO S R hT n hl p e h)
 |Compare a ops rs pos=>
  delta iT
  refine .evQ fun op r x zz y st2 k e1 e2 e3 o1 o2 h=>?_
  subst o1 o2;exact kH S R hE hS e1 e2 e3 n hl h
 |_=>exact .gd D
end
structure Pres(st st':MS):Prop where
 low:st'.low≤st.low
 len:st.H.length≤st'.H.length
 keep:∀i,i < st'.low→i < st.H.length→st'.H[i]? =st.H[i]?
 bs:∀i,i < st.bas→i < st'.low→i < st'.bas
theorem Pres.rfl'{st:MS}:Pres st st:=⟨lrZ _,lrZ _,fun _ _ _=>rfl,fun _ h _=>h⟩
theorem Pres.trans{a b c:MS}(x:Pres a b)(y:Pres b c):Pres a c:=⟨leZ y.low x.low,leZ x.len y.len,fun i h1 h2=>(y.keep i h1 (llZ h2 x.len)).trans (x.keep i (llZ h1 y.low) h2),fun i h1 h2=>y.bs i (x.bs i h1 (llZ h2 y.low)) h2⟩
theorem iB(i n:Nat):mn i n≤n:=by
 unfold mn;split
 ·rename_i h;exact Nat.le_of_lt (lbZ h)
 ·exact lrZ _
theorem d6(i n:Nat):mn i n≤i:=by
 unfold mn;split
 ·exact lrZ _
 ·rename_i h
  refine Nat.le_of_not_lt fun q=>?_
  have:Nat.blt i n=true:=by unfold Nat.blt;exact blZ q
  rw [this]at h;cases h
theorem Pres.wr{st:MS}(i:Nat)(o:MO):Pres st (wr st i o):=by
 refine⟨iB i st.low,?_,fun j h1 h2=>?_,fun j h1 h2=>?_⟩
 ·show st.H.length≤(bO o st.H i).length
  rw [aj];simp
 ·show (bO o st.H i)[j]? =st.H[j]?
  have h1':j < mn i st.low:=h1;have:=d6 i st.low;rw [aj,ypZ]
  lia
 ·show j < mn i st.bas
  have h2':j < mn i st.low:=h2;have:=d6 i st.low;unfold mn;split
  ·lia
  ·exact h1
theorem Pres.psh{st:MS}(o:MO):Pres st (psh st o):=⟨lrZ _,by show _≤(st.H++[o]).length;simp,fun i _ h=>by show (st.H++[o])[i]? =_;rw [yaZ h],fun _ h _=>h⟩
theorem Pres.al{α:Type}{st:MS}{r:Option (α×MS)}(h:Al r fun p=>Pres st p.2){x:α}{st':MS}(e:r=some (x,st')):Pres st st':=h _ e
structure eg(ih:Ih):Prop where
 ev:∀cx zl st e v st',ih.ev cx zl st e=some (v,st')→Pres st st'
 tst:∀cx zl st e b st',ih.tst cx zl st e=some (b,st')→Pres st st'
 run:∀cx K zl st v st',ih.run cx K zl st=some (v,st')→Pres st st'
 cal:∀f args st v st',ih.cal f args st=some (v,st')→Pres st st'
section
theorem eB(I:eg ih){cx:Cx}{zl:Loc}:∀{es:List xpZ} {st:MS},Al (bU ih.ev cx zl st es) fun p=>Pres st p.2
 |[],st=>.so .rfl'
 |x::r,st=>.pb fun v s1 e1=>.pb fun vs s2 e2=>.so ((I.ev _ _ _ _ _ _ e1).trans (Pres.al (eB I) e2))
theorem wj{st:MS}{op:Operator}{a b:MV}:Al (qj st op a b) fun p=>Pres st p.2:=by
 cases op with
 |Add=>exact .ob fun _ _=>.ob fun _ _=>.so .rfl'
 |Sub=>exact .ob fun _ _=>.ob fun _ _=>.so .rfl'
 |Mod=>exact .ob fun _ _=>.ob fun _ _=>.gd fun _=>.so .rfl'
 |FloorDiv=>exact .ob fun _ _=>.ob fun _ _=>.gd fun _=>.so .rfl'
 |BitAnd=>exact .ob fun _ _=>.ob fun _ _=>.so .rfl'
 |BitOr=>exact .ob fun _ _=>.ob fun _ _=>.so .rfl'
 |Mult=>
  refine .ob fun _ _=>?_
  cases a with
  |tup vs=>exact .gd fun _=>.gd fun _=>.so .rfl'
  |ref r=>exact .ob fun _ _=>.ok fun _=>.ok fun _=>.so (.psh _)
  |_=>exact .no
 |_=>exact .no
theorem Al.and{β:Type}{P:β→Prop}{op:PySem.BoolOp}{b:Bool}{x y:Option β}(h:Al x P)(k:Al y P):Al (Ft op b x y) P:=by
 cases op <;>cases b <;>first|exact h|exact k
theorem mO(I:eg ih){cx:Cx}{zl:Loc}{op:PySem.BoolOp}:∀{es:List xpZ} {st:MS},Al (dW ih cx zl op st es) fun p=>Pres st p.2
 |[],st=>.no
 |[x],st=>fun _ e=>I.ev _ _ _ _ _ _ e
 |x::y::r,st=>.pb fun v s1 e1=>.ob fun b _=>.and (.so (I.ev _ _ _ _ _ _ e1)) (.mono (mO I) fun _=>(I.ev _ _ _ _ _ _ e1).trans)
theorem mP(I:eg ih){cx:Cx}{zl:Loc}{op:PySem.BoolOp}:∀{es:List xpZ} {st:MS},Al (cF ih cx zl op st es) fun p=>Pres st p.2
 |[],st=>.so .rfl'
 |x::r,st=>.pb fun b s1 e1=>.and (.so (I.tst _ _ _ _ _ _ e1)) (.mono (mP I) fun _=>(I.tst _ _ _ _ _ _ e1).trans)
theorem tP{st:MS}{o k v:MV}:Al (lx st o k v) (Pres st):=by
 refine .ob fun r _=>.ob fun o _=>?_
 cases o with
 |list vs=>exact .ob fun _ _=>.gd fun _=>.so (.wr _ _)
 |dict es=>exact .ok fun _=>.mp fun _ _=>.wr _ _
 |_=>exact .no
theorem tQ{st:MS}{o v:MV}{x:Str}:Al (wU st o x v) (Pres st):=.ob fun _ _=>.ob fun _ _=>.inA fun _ _ _ _ _=>.ob fun _ _=>.gd fun _=>.so (.wr _ _)
theorem pZ(I:eg ih){cx:Cx}{zl:Loc}{st:MS}{t:xpZ}{v:MV}:Al (bL ih cx zl st t v) fun p=>Pres st p.2:=by
 cases t with
 |Name x p=>
  delta bL
  exact .gd fun _=>.so .rfl'
 |Tuple es k p=>
  delta bL
  exact .ob fun _ _=>.ob fun _ _=>.mp fun _ _=>.rfl'
 |Attribute o x p=>
  delta bL
  exact .pb fun _ _ e1=>.mp fun _ e2=>(I.ev _ _ _ _ _ _ e1).trans (tQ _ e2)
 |Subscript o i p=>
  delta bL
  exact .pb fun _ _ e1=>.pb fun _ _ e2=>.mp fun _ e3=>((I.ev _ _ _ _ _ _ e1).trans (I.ev _ _ _ _ _ _ e2)).trans (tP _ e3)
 |_=>exact .no
theorem qx{st st':MS}{v:MV}(P:Pres ⟨st.H,st.dyn,aD,st.bas⟩ st'):Pres st (dh st v st').2:=by
 have K:∀i,i < st'.low→i < st.H.length→st'.H[i]? =st.H[i]? :=P.keep;have L:st.H.length≤st'.H.length:=P.len;unfold dh
 cases hb:Nat.ble st.H.length st'.low with
 |true=>
  have h:=lbZ hb
  cases Fp st.H.length st' v with
  |none=>exact⟨lrZ _,L,fun i _ hi=>K i (llZ hi h) hi,fun _ h _=>h⟩
  |some o=>cases o with
   |none=>exact⟨lrZ _,lrZ _,fun _ _ _=>rfl,fun _ h _=>h⟩
   |some vs=>exact⟨lrZ _,by rw [ynZ];exact Nat.le_add_right _ _,fun i _ hi=>yaZ hi,fun _ h _=>h⟩
 |false=>
  have R:=d6 st'.low st.low
  refine⟨iB _ _,L,fun i h1 h2=>K i (llZ h1 R) h2,fun i h1 h2=>?_⟩
  have b:=P.bs i h1 (llZ h2 R)
  show i < mn st'.bas st.bas
  unfold mn;cases Nat.blt st'.bas st.bas
  ·exact h1
  ·exact b
theorem qy{run:Cx→List Itm→Loc→MS→MR}(hr:∀cx K zl st v st',run cx K zl st=some (v,st')→Pres st st'){f:FI}{args:List MV}{st:MS}:Al (pF run f args st) fun p=>Pres st p.2:=
 .ob fun _ _=>.pb fun _ _ e1=>.so (qx (hr _ _ _ _ _ _ e1))
theorem qz(I:eg ih){c:Nat}{args:List MV}{st:MS}:Al (callC ih c args st) fun p=>Pres st p.2:=by
 refine .ob fun _ _=>.pb fun _ _ e1=>.gd fun _=>.so ?_
 refine Pres.trans ?_ (I.cal _ _ _ _ _ e1)
 exact⟨lrZ _,by rw [ynZ];exact Nat.le_add_right _ _,fun i _ h=>yaZ h,fun _ h _=>h⟩
theorem rB{b:Str}{args:List MV}{st:MS}:Al (lm b args st) fun p=>Pres st p.2:=
 .a1 fun _ _=>.bl (fun _=>.ob fun _ _=>.so .rfl') fun _=>.bl (fun _=>.ob fun _ _=>.so .rfl') fun _=>.bl (fun _=>.ob fun _ _=>.so (.psh _)) fun _=>.gd fun _=>.ob fun _ _=>.ob fun vs _=>match vs with
  |[]=>.so .rfl'
  |_::_=>.no
theorem wk{st:MS}{a:MV}{lo hi sp:Option xpZ}:Al (Fu st a lo hi sp) fun p=>Pres st p.2:=
 match hi,lo,sp with
 |some _,_,_=>.no
 |none,none,_=>.ob fun _ _=>.ob fun _ _=>.ob fun _ _=>.gd fun _=>.ob fun _ _=>.gd fun _=>.so .rfl'
 |none,some _,some _=>.no
 |none,some _,none=>.ob fun _ _=>.ob fun _ _=>.ob fun _ _=>.so (.psh _)
theorem mQ{st:MS}{d:MV}{o:Option MV}:Al (Fs st d o) fun p=>Pres st p.2:=match o with
 |none=>.so .rfl'
 |some _=>.so .rfl'
theorem rC(I:eg ih){k:Mt}{o:MV}{args:List MV}{st:MS}:Al (lu ih k o args st) fun p=>Pres st p.2:=by
 cases k with
 |fn f=>exact fun _ e=>I.cal _ _ _ _ _ e
 |app=>exact .ob fun _ _=>.a1 fun _ _=>.ob fun _ _=>.ok fun _=>.so (.wr _ _)
 |pop=>
  refine .ob fun _ _=>.a0 fun _=>.ob fun vs _=>?_
  cases vs.reverse with
  |nil=>exact .no
  |cons=>exact .so (.wr _ _)
 |get=>
  refine .a2 fun _ _ _=>?_
  cases o with
  |top t=>exact .ob fun _ _=>.ob fun _ _=>mQ
  |ref r=>exact .ob fun _ _=>.ob fun _ _=>.ob fun _ _=>mQ
  |_=>exact .no
theorem pd(I:eg ih){α:Type}{cx:Cx}{zl:Loc}{st:MS}{l:xpZ}{ops:List CmpOp}{rs:List xpZ}{f:Bool→α}:Al (evQ ih cx zl st l ops rs f) fun p=>Pres st p.2:=.evQ fun _ _ _ _ _ _ _ e1 e2 _ _ _=>(I.ev _ _ _ _ _ _ e1).trans (I.ev _ _ _ _ _ _ e2)
theorem tR(I:eg ih){cx:Cx}{zl:Loc}{st:MS}{e:xpZ}:Al (iT ih cx zl st e) fun p=>Pres st p.2:=by
 cases e with
 |UnaryOp op x pos=>
  delta iT
  cases op with
  |Not=>exact .pb fun _ _ e1=>.so (I.tst _ _ _ _ _ _ e1)
  |_=>exact .no
 |BoolOp op vs pos=>
  delta iT
  exact mP I
 |Compare a ops rs pos=>
  delta iT
  exact pd I
 |_=>
  delta iT
  refine .gd fun _=>.pb fun _ _ e1=>.mp fun _ _=>?_
  exact I.ev _ _ _ _ _ _ e1
theorem wm(I:eg ih){cx:Cx}{zl:Loc}{st:MS}{args:List xpZ}{pos:Pos}{f:xpZ}:Al (PZ ih cx zl st args pos f) fun p=>Pres st p.2:=by
 cases f with
 |Name g p=>
  delta PZ
  refine .ob fun b _=>?_
  cases b with
  |true=>exact .no
  |false=>
   refine .pb fun vs s1 e1=>?_
   have p1:=(Pres.al (eB I) e1)
   cases vy g wP ftab with
   |some fi=>exact fun _ e=>p1.trans (I.cal _ _ _ _ _ e)
   |none=>cases vy g wQ ctab with
    |some c=>exact .mono (qz I) fun _=>p1.trans
    |none=>exact .mono rB fun _=>p1.trans
 |Attribute o m ap=>
  delta PZ
  exact .gd fun _=>.pb fun _ _ e1=>.ob fun _ _=>.pb fun _ _ e2=>.mono (rC I) fun _=>((I.ev _ _ _ _ _ _ e1).trans (Pres.al (eB I) e2)).trans
 |_=>exact .no
theorem wn(I:eg ih){cx:Cx}{zl:Loc}{st:MS}{a:MV}{i:xpZ}:Al (PY ih cx zl st a i) fun p=>Pres st p.2:=by
 cases i with
 |Slice lo hi step p=>exact wk
 |_=>
  delta PY
  refine .pb fun _ _ e2=>.mp fun _ _=>?_
  exact I.ev _ _ _ _ _ _ e2
theorem wo(I:eg ih){cx:Cx}{zl:Loc}{st:MS}{op:PySem.UnaryOp}{x:xpZ}:Al (Fx ih cx zl st op x) fun p=>Pres st p.2:=by
 cases op with
 |Not=>
  delta Fx
  refine .pb fun _ _ e1=>.mp fun _ _=>?_
  exact I.ev _ _ _ _ _ _ e1
 |USub=>
  delta Fx
  refine .pb fun _ _ e1=>.ob fun _ _=>.so ?_
  exact I.ev _ _ _ _ _ _ e1
 |_=>exact .no
theorem wp(I:eg ih){cx:Cx}{zl:Loc}{st:MS}{e:xpZ}:Al (jv ih cx zl st e) fun p=>Pres st p.2:=by
 cases e with
 |Constant c k p=>
  delta jv
  cases c <;>first|exact .no|exact .so .rfl'
 |Name x p=>
  delta jv
  refine .ob fun b _=>?_
  cases b <;>exact .mp fun _ _=>.rfl'
 |Attribute o x p=>
  delta jv
  refine .gd fun _=>.pb fun _ _ e1=>.mp fun _ _=>?_
  exact I.ev _ _ _ _ _ _ e1
 |Subscript o i p=>
  delta jv
  refine .pb fun a s1 e1=>?_
  exact .mono (wn I) fun _=>(I.ev _ _ _ _ _ _ e1).trans
 |Compare l ops rs p=>
  delta jv
  exact pd I
 |BoolOp op vs p=>
  delta jv
  exact mO I
 |UnaryOp op x p=>exact wo I
 |BinOp l op r p=>
  delta jv
  exact .pb fun _ _ e1=>.pb fun _ _ e2=>.mono wj fun _=>((I.ev _ _ _ _ _ _ e1).trans (I.ev _ _ _ _ _ _ e2)).trans
 |IfExp t a b p=>
  delta jv
  refine .pb fun c s1 e1=>?_
  cases c <;>exact fun _ e=>(I.tst _ _ _ _ _ _ e1).trans (I.ev _ _ _ _ _ _ e)
 |Tuple es k p=>
  delta jv
  exact .pb fun _ _ e1=>.ok fun _=>.so (Pres.al (eB I) e1)
 |List es p=>
  delta jv
  exact .pb fun _ _ e1=>.ok fun _=>.so ((Pres.al (eB I) e1).trans (.psh _))
 |Dict ks vs p=>
  delta jv
  cases ks with
  |cons=>exact .no
  |nil=>cases vs with
   |cons=>exact .no
   |nil=>exact .so (.psh _)
 |Call f args ks p=>
  delta jv
  cases ks with
  |cons=>exact .no
  |nil=>exact wm I
 |ListComp elt gs sc p=>
  delta jv
  exact .ob fun _ _=>.pb fun _ _ e1=>.ob fun _ _=>.ob fun _ _=>.gd fun _=>.ob fun _ _=>.gd fun _=>.so ((I.ev _ _ _ _ _ _ e1).trans (.psh _))
 |_=>exact .no
theorem tS{st:MS}{u:MV}:Al (nj st u) fun p=>p.2=st:=by
 cases u with
 |tup vs=>exact .so rfl
 |ref r=>exact .ob fun _ _=>.so rfl
 |_=>exact .no
theorem wq(I:eg ih){cx:Cx}{zl:Loc}{st:MS}{e:xpZ}:Al (bv ih cx zl st e) fun p=>Pres st p.2:=by
 unfold bv
 cases wV cx e with
 |some a=>exact .pb fun _ _ e1=>.ob fun _ _=>.ok fun _=>.so (I.ev _ _ _ _ _ _ e1)
 |none=>exact .pb fun _ _ e1=>.mono tS fun _ q=>q ▸I.ev _ _ _ _ _ _ e1
theorem wt(I:eg ih){cx:Cx}{zl:Loc}{st:MS}{K:List Itm}{ss:List Stmt}{s:Stmt}:Al (gq ih cx K zl st ss s) fun p=>Pres st p.2:=by
 have G:∀{cx K zl s1},Pres st s1→Al (ih.run cx K zl s1) fun p=>Pres st p.2:=fun h _ e=>h.trans (I.run _ _ _ _ _ _ e)
 cases s with
 |Return e p=>
  delta gq
  cases e with
  |some e=>exact fun _ e=>I.ev _ _ _ _ _ _ e
  |none=>exact .so .rfl'
 |Expr e p=>
  delta gq
  exact .gd fun _=>.pb fun _ _ e1=>G (I.ev _ _ _ _ _ _ e1)
 |Assign ts e p=>
  delta gq
  cases ts with
  |nil=>exact .no
  |cons t ts=>cases ts with
   |cons=>exact .no
   |nil=>exact .gd fun _=>.pb fun _ _ e1=>.pb fun _ _ e2=>G ((I.ev _ _ _ _ _ _ e1).trans (Pres.al (pZ I) e2))
 |AugAssign t op e p=>
  delta gq
  exact .ob fun _ _=>.gd fun _=>.ob fun _ _=>.pb fun _ _ e1=>.gd fun _=>.ob fun _ _=>.ob fun _ _=>G (I.ev _ _ _ _ _ _ e1)
 |If t a b p=>
  delta gq
  refine .pb fun c s1 e1=>?_
  cases c <;>exact G (I.tst _ _ _ _ _ _ e1)
 |While t body el p=>
  delta gq
  cases el with
  |nil=>exact G .rfl'
  |cons=>exact .no
 |For x it body el p=>
  delta gq
  cases el with
  |nil=>exact .pb fun _ _ e1=>G (Pres.al (wq I) e1)
  |cons=>exact .no
 |Continue p=>
  delta gq
  exact .ob fun _ _=>G .rfl'
 |Try body hs el fin p=>
  delta gq
  cases hs with
  |nil=>exact .no
  |cons=>cases el with
   |cons=>exact .no
   |nil=>cases fin with
    |cons=>exact .no
    |nil=>exact G .rfl'
 |_=>exact .no
theorem tT(I:eg ih){cx:Cx}{zl:Loc}{st:MS}{K:List Itm}:Al (wW ih cx K zl st) fun p=>Pres st p.2:=by
 have G:∀{cx K zl s1},Pres st s1→Al (ih.run cx K zl s1) fun p=>Pres st p.2:=fun h _ e=>h.trans (I.run _ _ _ _ _ _ e)
 match K with
 |[]=>exact .so .rfl'
 | .stm []::K=>exact G .rfl'
 | .stm (s::ss)::K=>exact wt I
 | .forI x s i body::K=>
  refine .ob fun o _=>?_
  cases o with
  |some v=>exact .pb fun _ _ e1=>G (Pres.al (pZ I) e1)
  |none=>exact G .rfl'
 | .whl t body::K=>
  delta wW
  refine .pb fun c s1 e1=>?_
  cases c <;>exact G (I.tst _ _ _ _ _ _ e1)
variable{cal:FI→List MV→MS→MR}
end
def ah(O:aX):Prop:=∀a d args st v st',O a d args st=some (v,st')→Pres st st'
theorem wu{O:aX}(hO:ah O):∀n d,eg (aA O n d):=by
 intro n
 induction n with
 |zero=>exact fun d=>⟨fun _ _ _ _ _ _ e=>aF e,fun _ _ _ _ _ _ e=>aF e,fun _ _ _ _ _ _ e=>aF e,fun _ _ _ _ _ e=>aF e⟩
 |succ n ih=>
  intro d
  refine⟨fun _ _ _ _ _ _ e=>wp (ih d) _ e,fun _ _ _ _ _ _ e=>tR (ih d) _ e,fun _ _ _ _ _ _ e=>tT (ih d) _ e,fun f args st v st'=>?_⟩
  show sY _ _ _ _ _ _=_→_
  unfold sY
  cases q:O f.ad d args st with
  |some r=>exact fun e=>hO _ _ _ _ _ _ (q.trans e)
  |none=>cases d with
   |zero=>exact fun e=>aF e
   |succ d'=>exact fun e=>qy (ih _).run _ e
def eC(w:Wd)(d:Nat)(cal:FI→List MV→MS→MR):Prop:=
 ∀(F:Fm) (_:Sit w F) (A:Around) (_:A.frames=some (F.env::F.outer)) (_:A.handled=none) (_:ge A d) (m:Str→Option Value) (X:List (Addr×Obj)) (l:LS) (st:MS) (s:Shared) (f:FI) (_:dT w.params f) (args:List MV) (zq:List Value) (v:MV) (st':MS),
  cal f args st=some (v,st')→Now w F.h₀ F.L m X l st s→l.VRs args zq→
  ∀(R:Result→Shared→Prop),(∀v' s' l',Now w F.h₀ F.L m X l' st' s'→Ext l l'→Same s s'→l'.VR v v'→R (.ok (.ret v')) s')→codeAny (M w) A (.call (.ref f.ad) ⟨zq,[]⟩) R s
theorem mS{α β:Type}{f g:α→Option β}:∀{l:List α},(∀x ∈ l,f x=g x)→l.filterMap f=l.filterMap g
 |[],_=>rfl
 |x::r,h=>by rw [List.filterMap_cons,List.filterMap_cons,h x (.head _),mS fun y hy=>h y (.tail _ hy)]
theorem oG{names:List Str}:∀{zq:List Value},names.Nodup→names.length=zq.length→names.filterMap (fun n=>((names.zip zq).lookup n).map (n,·))=names.zip zq:=by
 induction names with
 |nil=>intro zq _ _;rfl
 |cons x r ih=>
  intro zq hn hl
  cases zq with
  |nil=>cases hl
  |cons v vs=>
   obtain⟨h1,h2⟩:=List.nodup_cons.mp hn
   have e:∀n ∈ r,((x::r).zip (v::vs)).lookup n=(r.zip vs).lookup n:=fun n hm=>by
    have:(n==x)=false:=bfZ fun q=>h1 (q ▸hm)
    simp [List.zip_cons_cons,ylZ,this]
   have e2:r.filterMap (fun n=>(((x::r).zip (v::vs)).lookup n).map (n,·))=r.filterMap (fun n=>((r.zip vs).lookup n).map (n,·)):=mS fun n hm=>by rw [e n hm]
   rw [List.filterMap_cons,e2,ih h2 (by simpa using hl)]
   simp [List.zip_cons_cons,ylZ]
theorem mT{names:List Str}:∀{zq:List Value},names.length=zq.length→∀n ∈ names,((names.zip zq).lookup n).isNone=false:=by
 induction names with
 |nil=>intro _ _ n h;cases h
 |cons x r ih=>
  intro zq hl n hm
  cases zq with
  |nil=>cases hl
  |cons v vs=>
   rw [List.zip_cons_cons,ylZ]
   by_cases q:n=x
   ·subst q;simp
   ·have:(n==x)=false:=bfZ q;rw [this];rcases mcZ hm with e|h
    ·exact absurd e q
    ·exact ih (by simpa using hl) n h
theorem GR{α β:Type}(a:α)(f:α→Sem β):(pure a >>=f)=f a:=rfl
theorem wv{α β:Type}(b:β)(f:α→β→Sem (ForInStep β)):forIn ([]:List α) b f=pure b:=rfl
theorem QC{α β:Type}{l:List Str}{m:List Value}{b:α}{f:Str×Value→α→Sem (ForInStep α)}{g:α→Sem β}{r:Sem β}(hm:m=[])(h:g b=r):(forIn (l.zip m) b f >>=g)=r:=by
 subst hm;rw [List.zip_nil_right];exact h
theorem tU:seqItems? Value.none=pure none:=rfl
theorem oH{name qual:Str}{a:Arguments}{body:List Stmt}{scope:Scope}{doc pm cdv:Value}{zq:List Value}(h1:a.posonlyargs=[])(h2:a.vararg=none)(h3:a.kwonlyargs=[])(h4:a.kwarg=none)(hn:(a.args.map (·.arg)).Nodup)(hl:(a.args.map (·.arg)).length=zq.length):
  bindArgs (fnOf name qual a body scope .none .none doc pm none cdv .none) ⟨zq,[]⟩=pure ((a.args.map (·.arg)).zip zq):=by
 obtain⟨po,ar,va,ko,kd,kw,de⟩:=a;obtain rfl:po=[]:=h1;obtain rfl:va=none:=h2;obtain rfl:ko=[]:=h3;obtain rfl:kw=none:=h4
 have hd:decide (zq.length > (ar.map (·.arg)).length)=false:=decide_eq_false (hl ▸Nat.lt_irrefl _)
 have hz:∀n ∈ ar.map (·.arg),(((ar.map (·.arg)).zip zq).lookup n).isNone=false:=mT hl
 have hf:∀k,List.filter (fun n=>(((ar.map (·.arg)).zip zq).lookup n).isNone) ((ar.map (·.arg)).take k)=[]:=fun k=>List.filter_eq_nil_iff.mpr fun n hm=>by rw [hz n (List.mem_of_mem_take hm)];decide
 unfold bindArgs
 dsimp only [wv,GR,tU,fnOf]
 refine (if_neg (fun h=>Bool.false_ne_true (((congrArg (fun b=>b && (none:Option Arg).isNone) hd).symm).trans h))).trans ?_
 refine (if_neg ?_).trans ?_
 ·exact fun h=>Bool.false_ne_true (((congrArg (fun l:List Str=> !l.isEmpty) (hf _)).symm).trans h)
 refine QC ?_ ?_
 ·exact List.drop_nil
 show (pure (List.filterMap (fun n=>(List.lookup n ((ar.map (·.arg)).zip zq)).map fun x=>(n,x)) (ar.map (·.arg)++[])):Sem _)=_
 rw [List.append_nil,oG hn hl]
mutual
inductive Sc(n:Nat):MV→Prop
 |none:Sc n .none
 |bool (b:Bool):Sc n (.bool b)
 |int (i:Int):Sc n (.int i)
 |str (s:Str):Sc n (.str s)
 |kd (t:Nat):Sc n (.kd t)
 |op (t:Nat):Sc n (.op t)
 |anyv:Sc n .anyv
 |top (a:Nat):Sc n (.top a)
 |ref {i:Nat} (h:i < n):Sc n (.ref i)
 |tup {vs:List MV} (h:Scs n vs):Sc n (.tup vs)
inductive Scs(n:Nat):List MV→Prop
 |nil:Scs n []
 |cons {v:MV} {vs:List MV} (h:Sc n v) (hs:Scs n vs):Scs n (v::vs)
end
section
variable{im:List (Addr×Obj)}
theorem VR.sc{v:MV}{w:Value}(h:VR as ks im v w):Sc as.length v:=
 VR.rec (motive_1:=fun v _ _=>Sc as.length v) (motive_2:=fun vs _ _=>Scs as.length vs) .none .bool (fun i _=>.int i) (fun x _=>.str x) (fun _ _=>.kd _) (fun _ _=>.op _) (fun _=>.anyv) .top (fun h=>.ref (ybZ.mp h).1) (fun _ _ _ a=>.tup a) .nil (fun _ _ a b=>.cons a b) h
theorem VRs.sc{v:List MV}{w:List Value}(h:VRs as ks im v w):Scs as.length v:=
 VRs.rec (motive_1:=fun v _ _=>Sc as.length v) (motive_2:=fun vs _ _=>Scs as.length vs) .none .bool (fun i _=>.int i) (fun x _=>.str x) (fun _ _=>.kd _) (fun _ _=>.op _) (fun _=>.anyv) .top (fun h=>.ref (ybZ.mp h).1) (fun _ _ _ a=>.tup a) .nil (fun _ _ a b=>.cons a b) h
theorem i4{α:Type}{l l':List α}(h:l <+:l'){i:Nat}{a:α}(e:l'[i]? =some a)(hi:i < l.length):l[i]? =some a:=by
 obtain⟨r,rfl⟩:=h;rw [yaZ hi]at e;exact e
theorem Sc.refI{i:Nat}(h:Sc n (.ref i)):i < n:=match h with
 | .ref h=>h
theorem Sc.tupI{vs:List MV}(h:Sc n (.tup vs)):Scs n vs:=match h with
 | .tup h=>h
theorem Scs.consI{v:MV}{vs:List MV}(h:Scs n (v::vs)):Sc n v∧Scs n vs:=match h with
 | .cons h hs=>⟨h,hs⟩
theorem pe(ha:as <+:as'):((∀v w,VR as' ks im v w→Sc as.length v→VR as ks im v w)∧∀v w,VRs as' ks im v w→Scs as.length v→VRs as ks im v w):=
 have A:=@VR.rec as' ks im (fun v w _=>Sc as.length v→VR as ks im v w) (fun v w _=>Scs as.length v→VRs as ks im v w) (fun _=>.none) (fun b _=>.bool b) (fun i t _=>.int i t) (fun x t _=>.str x t) (fun t h _=>.kd t h) (fun t h _=>.op t h) (fun h _=>.anyv h) (fun a _=>.top a) (fun h s=>.ref (i4 ha h s.refI)) (fun h _ hl ih s=>.tup h (ih s.tupI) hl) (fun _=>.nil) (fun _ _ a b s=>.cons (a s.consI.1) (b s.consI.2))
 have B:=@VRs.rec as' ks im (fun v w _=>Sc as.length v→VR as ks im v w) (fun v w _=>Scs as.length v→VRs as ks im v w) (fun _=>.none) (fun b _=>.bool b) (fun i t _=>.int i t) (fun x t _=>.str x t) (fun t h _=>.kd t h) (fun t h _=>.op t h) (fun h _=>.anyv h) (fun a _=>.top a) (fun h s=>.ref (i4 ha h s.refI)) (fun h _ hl ih s=>.tup h (ih s.tupI) hl) (fun _=>.nil) (fun _ _ a b s=>.cons (a s.consI.1) (b s.consI.2))
 ⟨fun _ _ h=>A h,fun _ _ h=>B h⟩
theorem VR.shrink(ha:as <+:as'){v:MV}{w:Value}(h:VR as' ks im v w)(s:Sc as.length v):VR as ks im v w:=(pe ha).1 _ _ h s
theorem VRs.shrink(ha:as <+:as'){v:List MV}{w:List Value}(h:VRs as' ks im v w)(s:Scs as.length v):VRs as ks im v w:=(pe ha).2 _ _ h s
theorem Scs.all{vs:List MV}(h:Scs n vs):∀v ∈ vs,Sc n v:=by
 induction vs with
 |nil=>exact fun _ h=>nomatch h
 |cons v vs ih=>exact fcZ ⟨h.consI.1,ih h.consI.2⟩
theorem AX{n':Nat}(hn:n≤n'):(∀v,Sc n v→Sc n' v)∧∀v,Scs n v→Scs n' v:=
 have A:=@Sc.rec n (fun v _=>Sc n' v) (fun v _=>Scs n' v) .none .bool .int .str .kd .op .anyv .top (fun h=>.ref (llZ h hn)) (fun _ a=>.tup a) .nil (fun _ _ a b=>.cons a b)
 have B:=@Scs.rec n (fun v _=>Sc n' v) (fun v _=>Scs n' v) .none .bool .int .str .kd .op .anyv .top (fun h=>.ref (llZ h hn)) (fun _ a=>.tup a) .nil (fun _ _ a b=>.cons a b)
 ⟨fun _ h=>A h,fun _ h=>B h⟩
theorem Sc.mono{n':Nat}(hn:n≤n'){v:MV}(h:Sc n v):Sc n' v:=(AX hn).1 _ h
theorem Scs.mono{n':Nat}(hn:n≤n'){v:List MV}(h:Scs n v):Scs n' v:=(AX hn).2 _ h
theorem j5:∀(k:Nat) (v:MV),bc k v=true→Sc 0 v:=by
 intro k
 induction k with
 |zero=>exact fun v h=>cM h
 |succ k ih=>
  intro v h
  cases v with
  |ref i=>exact cM h
  |tup vs=>cases vs with
   |nil=>exact .tup .nil
   |cons x xs=>exact .tup (.cons (ih x (cO h).1) (ih _ (cO h).2).tupI)
  |_=>constructor
theorem f3:∀(vs:List MV),lj vs=true→Scs 0 vs
 |[],_=>.nil
 |x::xs,h=>.cons (j5 40 x (cO h).1) (f3 xs (cO h).2)
noncomputable def AY(n:Nat):MO→Prop
 | .list vs=>Scs n vs
 | .dict es=>∀p ∈ es,Sc n p.1∧Sc n p.2
 | .inst _ d=>d < n
 | .idict _ es=>∀p ∈ es,Sc n p.2
 | .any=>True
 | .ktb=>True
theorem Ents.sc{es:List (Str×MV)}{ds:List DictEntry}(h:Ents P as ks im es ds):∀p ∈ es,Sc as.length p.2:=by
 induction h with
 |nil=>exact fun _ h=>nomatch h
 |cons h hs ih=>exact fcZ ⟨h.sc,ih⟩
theorem Ents.shrink(ha:as <+:as'){es:List (Str×MV)}{ds:List DictEntry}(h:Ents P as' ks im es ds)(s:∀p ∈ es,Sc as.length p.2):Ents P as ks im es ds:=by
 induction h with
 |nil=>exact .nil
 |cons h hs ih=>exact .cons (h.shrink ha (s _ (.head _))) (ih fun p hp=>s p (.tail _ hp))
theorem wx{k:MV}{i:Int}(h:bn ks k=some i):Sc n k:=by
 cases k with
 |int i=>exact .int i
 |kd t=>exact .kd t
 |_=>exact aF h
theorem KVs.sc{es:List (MV×MV)}{ds:List (Int×Value)}(h:KVs as ks im es ds):∀p ∈ es,Sc as.length p.1∧Sc as.length p.2:=by
 induction h with
 |nil=>exact fun _ h=>nomatch h
 |cons hk h hs ih=>exact fcZ ⟨⟨wx hk,h.sc⟩,ih⟩
theorem KVs.shrink(ha:as <+:as'){es:List (MV×MV)}{ds:List (Int×Value)}(h:KVs as' ks im es ds)(s:∀p ∈ es,Sc as.length p.1∧Sc as.length p.2):KVs as ks im es ds:=by
 induction h with
 |nil=>exact .nil
 |cons hk h hs ih=>exact .cons hk (h.shrink ha (s _ (.head _)).2) (ih fun p hp=>s p (.tail _ hp))
theorem HVs.sc{es:List (MV×MV)}{ds:List (List RK×Addr×Value)}(h:HVs as ks im es ds):∀p ∈ es,Sc as.length p.1∧Sc as.length p.2:=by
 induction h with
 |nil=>exact fun _ h=>nomatch h
 |cons hk hka h hs ih=>exact fcZ ⟨⟨hka.sc,h.sc⟩,ih⟩
theorem HVs.shrink(ha:as <+:as'){es:List (MV×MV)}{ds:List (List RK×Addr×Value)}(h:HVs as' ks im es ds)(s:∀p ∈ es,Sc as.length p.1∧Sc as.length p.2):HVs as ks im es ds:=by
 induction h with
 |nil=>exact .nil
 |cons hk hka h hs ih=>exact .cons hk (hka.shrink ha (s _ (.head _)).1) (h.shrink ha (s _ (.head _)).2) (ih fun p hp=>s p (.tail _ hp))
theorem OR.sc{o:MO}{b:Obj}(h:OR P as ks im o b):AY as.length o:=by
 cases h with
 |list h hl=>exact h.sc
 |inst h=>exact (ybZ.mp h).1
 |idict h hf hl=>exact h.sc
 |ndict h hl ho=>exact h.sc
 |hdict h hl hc hd hds hn=>exact h.sc
 |any h=>trivial
 |ktb=>trivial
theorem OR.shrink(ha:as <+:as'){o:MO}{b:Obj}(h:OR P as' ks im o b)(s:AY as.length o):OR P as ks im o b:=by
 cases h with
 |list h hl=>exact .list (h.shrink ha s) hl
 |inst h=>exact .inst (i4 ha h s)
 |idict h hf hl=>exact .idict (h.shrink ha s) hf hl
 |ndict h hl ho=>exact .ndict (h.shrink ha s) hl ho
 |hdict h hl hc hd hds hn=>exact .hdict (h.shrink ha s) hl hc hd hds hn
 |any h=>exact .any h
 |ktb=>exact .ktb
theorem ORs.sc{os:List MO}{ps:List (Addr×Obj)}(h:ORs P as ks im os ps):∀o ∈ os,AY as.length o:=by
 induction h with
 |nil=>exact fun _ h=>nomatch h
 |cons h hs ih=>exact fcZ ⟨h.sc,ih⟩
theorem ORs.shrink(ha:as <+:as'){os:List MO}{ps:List (Addr×Obj)}(h:ORs P as' ks im os ps)(s:∀o ∈ os,AY as.length o):ORs P as ks im os ps:=by
 induction h with
 |nil=>exact .nil
 |cons h hs ih=>exact .cons (h.shrink ha (s _ (.head _))) (ih fun p hp=>s p (.tail _ hp))
theorem ORs.take{os:List MO}{ps:List (Addr×Obj)}(h:ORs P as ks im os ps):∀k,ORs P as ks im (os.take k) (ps.take k):=by
 induction h with
 |nil=>exact fun k=>by rw [List.take_nil,List.take_nil];exact .nil
 |cons h hs ih=>exact fun k=>match k with
  |0=>.nil
  |k+1=>.cons h (ih k)
theorem Scs.of_all:∀{vs:List MV},(∀v ∈ vs,Sc n v)→Scs n vs
 |[],_=>.nil
 |v::vs,h=>.cons (h v (.head _)) (Scs.of_all fun x hx=>h x (.tail _ hx))
theorem Scs.app{vs us:List MV}(h:Scs n vs)(k:Scs n us):Scs n (vs++us):=.of_all fun v hv=>(maZ hv).elim (h.all v) (k.all v)
theorem tV{r:MV}(h:mF r):Sc n r:=by
 cases h with
 |two=>exact .tup (.cons (.int _) (.cons (.int _) .nil))
 |box=>exact .tup (.cons (.int _) (.cons (.int _) (.cons (.tup (.cons (.int _) .nil)) .nil)))
theorem iC:∀(l:List Int),Scs n (l.map .int)
 |[]=>.nil
 |i::l=>.cons (.int i) (iC l)
theorem rows0_sc:Scs n rows0:=(f3 rows0 (by decide+kernel)).mono (Nat.zero_le _)
theorem tW:∀(k:Nat) {l:List MV},Scs n l→∀p ∈ eQ k l,Sc n p.1∧Sc n p.2
 |k,[],_=>fun _ h=>nomatch h
 |k,r::rs,h=>fcZ ⟨⟨h.consI.1,.int _⟩,tW (k+1) h.consI.2⟩
theorem kI{i:Nat}{E:List MV}{D W O:List Int}(hi:i+7≤n)(hE:∀r ∈ E,mF r):∀o ∈ bH i E D W O,AY n o:=by
 have hr:Scs n (rows0++E):=rows0_sc.app (Scs.of_all fun v hv=>tV (hE v hv))
 have z:∀(l:List MV),lj l=true→Scs n l:=fun l h=>(f3 l h).mono (Nat.zero_le _)
 intro o ho;simp only [bH,yhZ,ygZ,or_false]at ho;rcases ho with rfl|rfl|rfl|rfl|rfl|rfl|rfl
 ·show i+1 < n;lia
 ·intro p hp;simp only [ktN,List.map_cons,List.map_nil,yhZ,ygZ,or_false]at hp
  rcases hp with rfl|rfl|rfl|rfl|rfl <;>exact .ref (by lia)
 ·exact hr
 ·exact tW 0 hr
 ·exact (z deps0 (by decide+kernel)).app (iC D)
 ·exact (z wgts0 (by decide+kernel)).app (iC W)
 ·exact (z opns0 (by decide+kernel)).app (iC O)
end
section
variable{P:Wd}{l l':LS}{st:MS}
theorem HR.len(h:HR P l st):l.as.length=st.H.length:=by rw [h.obj.length];simp [LS.as]
theorem HR.len'(h:HR P l st):l.RL.length=st.H.length:=h.obj.length.symm
theorem wy{α:Type}{H H':List α}(hl:H.length≤H'.length)(h:∀i,i < H.length→H'[i]? =H[i]?):H'.take H.length=H:=by
 refine List.ext_getElem? fun i=>?_
 by_cases hi:i < H.length
 ·rw [ycZ hi];exact h i hi
 ·rw [yjZ (by simp;lia),yjZ (by lia)]
theorem HR.cut(h:HR P l st)(x:Ext l l')(h':HR P l' st')(hl:st.H.length≤st'.H.length)(hk:∀i,i < st.H.length→st'.H[i]? =st.H[i]?)(lo ba:Nat):
  HR P ⟨l'.RL.take st.H.length,l'.im,l'.ks⟩ ⟨st.H,st'.dyn,lo,ba⟩∧(⟨l'.RL.take st.H.length,l'.im,l'.ks⟩:LS).as=l.as:=by
 have e:(⟨l'.RL.take st.H.length,l'.im,l'.ks⟩:LS).as=l.as:=by
  show (l'.RL.take st.H.length).map (·.1)=l.as
  rw [yqZ];obtain⟨r,hr⟩:=x.as
  have hr':l'.RL.map (·.1)=l.as++r:=hr.symm
  rw [hr',←h.len,List.take_left]
 refine⟨⟨?_,by rw [e];exact h.nd,h'.imt,h'.kn,h'.kb,fun i hi=>?_⟩,e⟩
 ·rw [e];have z:=h'.obj.take st.H.length;rw [wy hl hk]at z;exact z.shrink x.as h.obj.sc
 ·have hi:st.H[i]? =some .ktb:=hi;obtain⟨T,U⟩:=h.tab i hi;have hin:=T.len;rw [h.len']at hin
  obtain⟨T',_⟩:=h'.tab i ((hk i (by lia)).trans hi)
  refine⟨?_,U⟩;rw [e];obtain⟨E,D,W,O,t1,t2⟩:=T';refine⟨E,D,W,O,t1,?_⟩
  show ORs P.params l.as l'.ks l'.im (bH i E D W O) (((l'.RL.take st.H.length).drop i).take 7)
  have e2:((l'.RL.take st.H.length).drop i).take 7=(l'.RL.drop i).take 7:=by
   rw [List.drop_take,List.take_take]
   congr 1
   lia
  rw [e2]
  exact t2.shrink x.as (kI (by rw [h.len];lia) fun r hr=>(t1.1.ok r hr).1)
theorem HR.snoc(h:HR P l st){a:Addr}{o:Obj}{mo:MO}(ha:a ∉ l.as)(hO:OR P.params (l.as++[a]) l.ks l.im mo o)(hp:mo.plain=true)(lo ba:Nat):HR P (l.add a o) ⟨st.H++[mo],st.dyn,lo,ba⟩:=by
 refine⟨?_,?_,h.imt,h.kn,h.kb,fun i hi=>?_⟩
 ·rw [LS.as_add]
  show ORs P.params (l.as++[a]) l.ks l.im (st.H++[mo]) (l.RL++[(a,o)])
  exact (h.obj.mono (paZ _ _) prZ fun _ h=>h).snoc hO
 ·rw [LS.as_add]
  refine List.nodup_append.mpr ⟨h.nd,by simp,fun x hx y hy=>?_⟩
  exact fun e=>ha (msZ hy ▸e ▸hx)
 ·have hi':(st.H++[mo])[i]? =some .ktb:=hi
  have hlt:i < st.H.length:=by
   refine Nat.lt_of_not_le fun h=>?_
   rw [yfZ h]at hi'
   cases q:i - st.H.length with
   |zero=>rw [q]at hi';exact cM ((oiZ hi' ▸rfl:MO.plain mo=false).symm.trans hp)
   |succ k=>rw [q]at hi';exact aF hi'
  rw [yaZ hlt]at hi';obtain⟨T,U⟩:=h.tab i hi'
  refine⟨?_,fun j h1 h2=>?_⟩
  ·rw [LS.as_add];have:=T.len
   refine T.mono (paZ _ _) (fun _ h=>h) ?_
   show ((l.RL++[(a,o)]).drop i).take 7=_
   rw [List.drop_append_of_le_length (by lia),List.take_append_of_le_length (by rw [List.length_drop];lia)]
  ·have:=U j h1 h2
   show (st.H++[mo])[i+j]? =_
   rw [yaZ (ybZ.mp this).1];exact this
theorem GS{n:Nat}{st:MS}{v:MV}:Al (Fp n st v) fun o=>match o with
  |none=>Sc n v
  |some vs=>∃r,v=.ref r∧n≤r∧aH st.H r=some (.list vs)∧Scs 0 vs:=by
 unfold Fp
 cases hn:bc 40 v with
 |true=>exact .so ((j5 40 v hn).mono (Nat.zero_le _))
 |false=>
  refine .ob fun r hr=>?_
  obtain rfl:=cf hr
  cases hb:Nat.blt r n with
  |true=>exact .so (.ref (lbZ hb))
  |false=>exact .ob fun vs hg=>.gd fun ha=>.so ⟨r,rfl,Nat.le_of_not_lt fun q=>cM (hb.symm.trans (blZ q)),gr hg,f3 vs ha⟩
structure Lv(P:Wd)(B:List (MO×Addr×Obj))(l l':LS)(v':Value)(p:MV×MS)(l'':LS):Prop where
 H:HR P l'' p.2
 x:Ext l l''
 v:l''.VR p.1 v'
 sub:∀p ∈ l''.RL,p ∈ l'.RL
 im:l''.im=l'.im
 bq:∀i o,i < p.2.bas→B[i]? =some o→p.2.H[i]? =some o.1∧Fits o l''.RL[i]?
theorem rD{B:List (MO×Addr×Obj)}{v:MV}{v':Value}(h:HR P l st)(bq:∀i o,i < st.bas→B[i]? =some o→st.H[i]? =some o.1∧Fits o l.RL[i]?)(x:Ext l l')(p:Pres ⟨st.H,st.dyn,aD,st.bas⟩ st')(h':HR P l' st')
  (bq':∀i o,i < st'.bas→B[i]? =some o→st'.H[i]? =some o.1∧Fits o l'.RL[i]?) (hv:l'.VR v v'):∃l'',Lv P B l l' v' (dh st v st') l'':=by
 have K:∀i,i < st'.low→i < st.H.length→st'.H[i]? =st.H[i]? :=p.keep;have L:st.H.length≤st'.H.length:=p.len;unfold dh
 cases hb:Nat.ble st.H.length st'.low with
 |false=>exact⟨l',⟨h'.obj,h'.nd,h'.imt,h'.kn,h'.kb,h'.tab⟩,x,hv,fun _ h=>h,rfl,fun i o h1 h2=>bq' i o (llZ h1 (d6 st'.bas st.bas)) h2⟩
 |true=>
  have hb:=lbZ hb
  have hk:∀i,i < st.H.length→st'.H[i]? =st.H[i]? :=fun i hi=>K i (llZ hi hb) hi
  have F:∀i o,i < st.bas→B[i]? =some o→i < st.H.length∧st.H[i]? =some o.1∧Fits o l'.RL[i]? :=fun i o h1 h2=>
   have z:=(bq i o h1 h2).1;have hi:=(ybZ.mp z).1
   ⟨hi,z,(bq' i o (p.bs i h1 (llZ hi hb)) h2).2⟩
  obtain⟨C,e⟩:=h.cut x h' L hk st.low st.bas;have xe:l.as <+:(⟨l'.RL.take st.H.length,l'.im,l'.ks⟩:LS).as:=e ▸prZ
  cases hd:Fp st.H.length st' v with
  |none=>exact⟨l',⟨h'.obj,h'.nd,h'.imt,h'.kn,h'.kb,h'.tab⟩,x,hv,fun _ h=>h,rfl,fun i o h1 h2=>let ⟨hi,a,b⟩:=F i o h1 h2;⟨(hk i hi).trans a,b⟩⟩
  |some o=>
   have D:=GS o hd
   cases o with
   |none=>exact⟨_,C,⟨xe,x.ks,x.im⟩,by
     show VR (⟨l'.RL.take st.H.length,l'.im,l'.ks⟩:LS).as l'.ks l'.im v v'
     rw [e]
     exact hv.shrink x.as (h.len ▸D),fun p hp=>mtZ hp,rfl,fun i o h1 h2=>let ⟨hi,a,b⟩:=F i o h1 h2;⟨a,(ycZ hi).symm ▸b⟩⟩
   |some vs=>
    obtain⟨r,rfl,hr,hg,s0⟩:=D;rw [aJ]at hg;obtain⟨q,hq,hO⟩:=h'.obj.get hg;obtain⟨a,o⟩:=q;have ea:l'.as[r]? =some a:=LS.as_get hq
    have hna:a ∉ (⟨l'.RL.take st.H.length,l'.im,l'.ks⟩:LS).as:=by
     rw [e];intro hm;obtain⟨j,hj⟩:=List.mem_iff_getElem?.mp hm;have q:=bp h'.nd ea (be x.as hj);exact absurd (h.len ▸(ybZ.mp hj).1) (Nat.not_lt.mpr (q ▸hr))
    obtain⟨ws,ep,ho,hV,hl⟩:=OR.listI hO
    have hO':OR P.params ((⟨l'.RL.take st.H.length,l'.im,l'.ks⟩:LS).as++[a]) l'.ks l'.im (.list vs) o:=(show o=_ from ho) ▸ .list ((VRs.shrink (as:=[]) List.nil_prefix hV s0).mono List.nil_prefix prZ fun _ h=>h) hl
    refine⟨_,C.snoc hna hO' rfl st.low st.bas,⟨?_,x.ks,x.im⟩,?_,fun p hp=>?_,rfl,fun i o h1 h2=>?_⟩
    ·rw [LS.as_add,e];exact paZ _ _
    ·obtain⟨b,rfl,hb⟩:=hv.refI;obtain rfl:=oiZ (ea.symm.trans hb);refine .ref ?_;rw [LS.as_add,e,←h.len];exact List.getElem?_concat_length
    ·rcases maZ (show p ∈ l'.RL.take st.H.length++[(a,o)]from hp)with hp|hp
     ·exact mtZ hp
     ·exact msZ hp ▸moZ hq
    ·obtain⟨hi,z,z3⟩:=F i o h1 h2;have z4:Fits o (l'.RL.take st.H.length)[i]? :=(ycZ hi).symm ▸z3
     exact⟨(yaZ hi).trans z,(show Fits _ (l'.RL.take st.H.length++[_])[i]? from (yaZ z4.lt).symm ▸z4)⟩
variable{im:List (Addr×Obj)}{v:MV}{x:Nat}
end
theorem j6:∀{xs:List Str} {vs:List MV} {zl:Loc},pE xs vs=some zl→xs.length=vs.length∧zl=xs.zip vs
 |[],[],zl,e=>⟨rfl,(oiZ e).symm⟩
 |[],_::_,zl,e=>aF e
 |_::_,[],zl,e=>aF e
 |x::xs,v::vs,zl,e=>by
  obtain⟨r,h1,h2⟩:=ysZ.mp (show (pE xs vs).map ((x,v)::·)=some zl from e)
  obtain⟨a,b⟩:=j6 h1
  exact⟨congrArg (· +1) a,h2.symm.trans (congrArg ((x,v)::·) b)⟩
theorem j7{kindOf:Str→Option NameKind}{x:Str}:∀{binds:List (Str×Value)} {m:Str→Option Value},x ∉ binds.map (·.1)→bindL kindOf binds m x=m x
 |[],m,_=>rfl
 |(n,v)::r,m,h=>by
  simp only [List.map_cons,yhZ,not_or]at h;unfold bindL;rw [j7 h.2];split
  ·simp only [if_neg h.1]
  ·rfl
theorem j8{kindOf:Str→Option NameKind}{x:Str}{v:Value}(hk:kindOf x=some .local):∀{binds:List (Str×Value)} {m:Str→Option Value},(binds.map (·.1)).Nodup→(x,v) ∈ binds→bindL kindOf binds m x=some v
 |[],m,_,h=>by cases h
 |(n,u)::r,m,hn,h=>by
  obtain⟨h1,h2⟩:=List.nodup_cons.mp hn;unfold bindL
  cases h with
  |head=>rw [j7 h1,if_pos hk];simp
  |tail _ h=>exact j8 hk h2 h
theorem j9{kindOf:Str→Option NameKind}{x:Str}:∀{binds:List (Str×Value)} {m:Str→Option Value},x ∉ binds.map (·.1)→bindC kindOf binds m x=m x
 |[],m,_=>rfl
 |(n,v)::r,m,h=>by
  simp only [List.map_cons,yhZ,not_or]at h;unfold bindC;rw [j9 h.2];split
  ·rfl
  ·simp only [if_neg h.1]
theorem ja{kindOf:Str→Option NameKind}{x:Str}{v:Value}(hk:kindOf x≠some .local):∀{binds:List (Str×Value)} {m:Str→Option Value},(binds.map (·.1)).Nodup→(x,v) ∈ binds→bindC kindOf binds m x=some v
 |[],m,_,h=>by cases h
 |(n,u)::r,m,hn,h=>by
  obtain⟨h1,h2⟩:=List.nodup_cons.mp hn;unfold bindC
  cases h with
  |head=>rw [j9 h1,if_neg hk];simp
  |tail _ h=>exact ja hk h2 h
theorem zip_get{as:List Addr}{ks:List (Bool×Int)}{im:List (Addr×Obj)}{x:Str}{v:MV}:∀{names:List Str} {args:List MV} {zq:List Value},VRs as ks im args zq→(names.zip args).lookup x=some v→∃v',(x,v') ∈ names.zip zq∧VR as ks im v v'
 |[],_,_,_,e=>aF e
 |_::_,[],_,_,e=>aF e
 |n::names,a::args,zq,h,e=>by
  obtain⟨u,us,rfl,h,hs⟩:=h.consI;rw [List.zip_cons_cons,ylZ]at e
  cases q:x==n with
  |true=>
   rw [q]at e;exact⟨u,eq_of_beq q ▸ .head _,oiZ e ▸h⟩
  |false=>
   rw [q]at e;obtain⟨v',h1,h2⟩:=zip_get hs e;exact⟨v',.tail _ h1,h2⟩
theorem rE{cm:Str→Option Value}{x:Str}{c:Addr}{cs:List (Str×Addr)}{cells:List (Addr×Obj)}(h:CellsAre cm cs cells):cs.lookup x=some c→∃o,(c,o) ∈ cells∧o.data=.cell (cm x):=by
 induction h with
 |nil=>exact fun e=>aF e
 |cons h r ih=>
  intro e;rename_i n _ _ _ _;rw [ylZ]at e
  cases q:x==n with
  |true=>
   rw [q]at e;obtain rfl:=oiZ e;exact⟨_,.head _,eq_of_beq q ▸h⟩
  |false=>
   rw [q]at e;obtain⟨o,h1,h2⟩:=ih e;exact⟨o,.tail _ h1,h2⟩
theorem d7:∀{names:List (Str×NameKind)} {n:Nat} {zo:List (Str×Addr)} {k:Nat},k≤n→(∀p ∈ zo,k≤p.2)→∀p ∈ cellsFrom n names zo,k≤p.2
 |[],n,zo,k,_,h,p,hp=>h p hp
 |(x,kd)::r,n,zo,k,hk,h,p,hp=>by
  unfold cellsFrom at hp;split at hp
  ·exact d7 (Nat.le_succ_of_le hk) (fun q hq=>by
    cases hq with
    |head=>exact hk
    |tail _ hq=>exact h q hq) p hp
  ·exact d7 hk h p hp
theorem tX{cm:Str→Option Value}{k:Nat}{cs:List (Str×Addr)}{cells:List (Addr×Obj)}(h:CellsAre cm cs cells):(∀p ∈ cs,k≤p.2)→∀p ∈ cells,k≤p.1:=by
 induction h with
 |nil=>exact fun _ _ h=>nomatch h
 |cons h r ih=>exact fun s=>fcZ ⟨s _ (.head _),ih fun q hq=>s q (.tail _ hq)⟩
abbrev Rn:=Nat→Cx→List Itm→Loc→MS→MR
inductive RestOk(w:Wd)(F:Fm)(X:List (Addr×Obj))(l:LS)(s:Shared)(rn:Rn)(n:Nat)(K:List Itm)(v:MV)(st':MS)(s1:Shared):Prop
 |mk (n':Nat) (m1:Str→Option Value) (l1:LS) (loc1:Loc) (zz:MS) (h1:n'≤n) (h2:rn n' F.scope.names K loc1 zz=some (v,st')) (h3:Now w F.h₀ F.L m1 X l1 zz s1) (h4:LocR F X l1 loc1 m1) (h5:Ext l l1) (h6:Same s s1):RestOk w F X l s rn n K v st' s1
inductive RetOk(w:Wd)(F:Fm)(X:List (Addr×Obj))(l:LS)(s:Shared)(v:MV)(st':MS)(v':Value)(s1:Shared):Prop
 |mk (m1:Str→Option Value) (l1:LS) (h1:Now w F.h₀ F.L m1 X l1 st' s1) (h2:Ext l l1) (h3:Same s s1) (h4:l1.VR v v'):RetOk w F X l s v st' v' s1
def Ends(w:Wd)(F:Fm)(X:List (Addr×Obj))(l:LS)(s:Shared)(rn:Rn)(n:Nat)(K:List Itm)(v:MV)(st':MS):Flow→Shared→Prop
 | .next,s1=>RestOk w F X l s rn n K v st' s1
 | .cont,s1=>∃K',jw K=some K'∧RestOk w F X l s rn n K' v st' s1
 | .ret v',s1=>RetOk w F X l s v st' v' s1
 | .brk,_=>False
def wz(w:Wd)(d:Nat)(rn:Rn)(n:Nat):Prop:=
 ∀(F:Fm) (_:Sit w F) (_:Room F.A d) (m:Str→Option Value) (X:List (Addr×Obj)) (l:LS) (st:MS) (s:Shared) (zl:Loc) (ss:List Stmt) (K:List Itm) (v:MV) (st':MS),
  rn n F.scope.names (.stm ss::K) zl st=some (v,st')→Now w F.h₀ F.L m X l st s→LocR F X l zl m→
  ∀(Q:Flow→Shared→Prop) (E:Value→Shared→Prop),(∀fl s1,Ends w F X l s rn n K v st' fl s1→Q fl s1)→wpAny (M w) F.A (execs ss F.env) Q E s
structure QD(a:Arguments)(sc:Scope):Prop where
 nd:(a.args.map (·.arg)).Nodup
 po:a.posonlyargs=[]
 va:a.vararg=none
 ko:a.kwonlyargs=[]
 kw:a.kwarg=none
 dbg:sc.names.lookup ("__debug__":Str)=none
 cdc:sc.names.lookup ("__classdict__":Str)=none
 cnd:((cellsFrom 0 sc.names []).map (·.1)).Nodup
 kind:sc.kind=.function
 gen:sc.isGenerator=false
 co:sc.isCoroutine=false
 ar:∀x ∈ a.args,sc.names.lookup x.arg=some .local∨sc.names.lookup x.arg=some .cell
theorem tY{a:Arguments}{sc:Scope}(h:iU a sc=true):QD a sc:=by
 unfold iU at h;simp only [Bool.and_eq_true,decide_eq_true_eq,List.isEmpty_iff,Option.isNone_iff_eq_none,Bool.not_eq_true',ykZ,Bool.or_eq_true]at h;obtain⟨⟨⟨⟨⟨⟨⟨⟨⟨⟨⟨⟨h1,h2⟩,h3⟩,h4⟩,h5⟩,h6⟩,h7⟩,h8⟩,h9⟩,h10⟩,h11⟩,h12⟩,h13⟩:=h
 refine⟨h1,h2,h3,h4,h5,h7,h8,h9,?_,h11,h12,fun x hx=>(h13 x hx).imp ly pH⟩
 revert h10
 cases sc.kind <;>intro h <;>first|rfl|exact cM h
theorem rF{w:Wd}{d:Nat}{rn:Rn}{n:Nat}(hR:wz w d rn n)(hnil:∀n' cx zl st v st',rn n' cx [] zl st=some (v,st')→v=.none∧st'=st)
  (hp:∀cx K zl st v st',rn n cx K zl st=some (v,st')→Pres st st'):eC w (d+1) (fun f args st=>pF (rn n) f args st):=by
 intro F S A hA hh R m X l st s f hf args zq v st' e n0 hv Rz k;obtain⟨name,qual,doc,pm,cdv,ho,hcd,hdef⟩:=hf;have D:=tY hdef
 refine (?_:Al (pF (rn n) f args st) fun p=>(∀v' s' l',Now w F.h₀ F.L m X l' p.2 s'→Ext l l'→Same s s'→l'.VR p.1 v'→Rz (.ok (.ret v')) s')→codeAny (M w) A (.call (.ref f.ad) ⟨zq,[]⟩) Rz s) (v,st') e k
 clear e k
 refine .ob fun zl hb=>.pb fun v1 zz hrun=>.so fun k=>?_
 obtain⟨hbl,rfl⟩:=j6 hb;have zr:(du f.sm).length=zq.length:=hbl.trans hv.length;have hbind:BindsTo s (fnOf name qual (fA f.sm) (fB f.sm) (fS f.sm) .none .none doc pm none cdv .none) ⟨zq,[]⟩ ((du f.sm).zip zq):=.of_eq (oH D.po D.va D.ko D.kw D.nd zr)
 have hkl:∀p ∈ (du f.sm).zip zq,(fS f.sm).names.lookup p.1=some .local∨(fS f.sm).names.lookup p.1=some .cell:=fun p hp=>by
  have:=List.of_mem_zip (a:=p.1) (b:=p.2) hp;obtain⟨x,hx,hxe⟩:=List.mem_map.mp this.1;rw [←hxe];exact D.ar x hx
 have hzn:(((du f.sm).zip zq).map (·.1)).Nodup:=by
  rw [List.map_fst_zip (by lia)];exact D.nd
 refine code_defC S.B n0.F S.K n0.N S.T hA rfl S.kind ho hcd (by have:=R.1;show A.depth < 1000;lia) hbind ?_ D.cnd ?_ D.co D.gen D.kind
 ·refine ykZ.mpr fun p hp=>?_
  rcases hkl p hp with h|h <;>rw [h] <;>rfl
 ·intro g L' h₁ tk cells FG F' N' Y B' X' T' l1
  have hcge:∀p ∈ cells,L'+1≤p.1:=tX Y (d7 (lrZ _) fun _ h=>by cases h)
  let F2:Fm:={A₀:=A,A:=A.deeper (envOfC qual (fS f.sm) L' f.ad cdv),base:=F.base,h₀:=g,outer:=F.env::F.outer,qual:=qual,scope:=fS f.sm,L:=L',f:=f.ad,cdv:=cdv,cl:=cellsFrom (L'+1) (fS f.sm).names [],mean:=F.mean,mg:=F.mg,mb:=F.mb}
  have S2:Sit w F2:={B:=B',K:=X',T:=T',fr:=Around.frames_deeper hA,hd:=hh,kind:=D.kind,dbg:=D.dbg,gen:=D.gen,co:=D.co,cdc:=D.cdc}
  have R2:Room F2.A d:=by
   have:=R.1;have:=R.2
   exact⟨by show A.depth+1+3 * d≤800;lia,by show A.units+3+20 * d≤900;lia⟩
  have n2:Now w F2.h₀ F2.L (bindL (envOfC qual (fS f.sm) L' f.ad cdv).kindOf ((du f.sm).zip zq) fun _=>none) (cells++X) l ⟨st.H,st.dyn,aD,st.bas⟩ {s with heap:=h₁,toks:=tk}:=by
   refine⟨F',fun p hp=>N' p ?_,⟨n0.H.obj,n0.H.nd,n0.H.imt,n0.H.kn,n0.H.kb,n0.H.tab⟩,fun p hp q hq=>?_,n0.sm,n0.bq,n0.oq⟩
   ·have hp':p ∈ l.RL++(l.im++(cells++X)):=hp;simp only [yoZ]at hp' ⊢;rcases hp' with h|h|h|h
    ·exact .inr (.inl h)
    ·exact .inr (.inr (.inl h))
    ·exact .inl h
    ·exact .inr (.inr (.inr h))
   ·rcases maZ hp with h|h
    ·have a:=hcge p h;have b:=l1 q (mlZ _ hq)
     exact fun e=>absurd (llZ b (Nat.le_of_succ_le a)) (by rw [e];exact Nat.lt_irrefl _)
    ·exact n0.ap p h q hq
  have L2:LocR F2 (cells++X) l ((du f.sm).zip args) (bindL (envOfC qual (fS f.sm) L' f.ad cdv).kindOf ((du f.sm).zip zq) fun _=>none):=by
   intro x v0 hx hi;obtain⟨v',g1,g2⟩:=zip_get hv hx;refine⟨v',g2,?_⟩;rcases hkl _ g1 with h|h
   ·exact .inl ⟨h,j8 h hzn g1⟩
   ·refine .inr ⟨.inl h,?_⟩;obtain⟨c,hc⟩:=Option.isSome_iff_exists.mp (cellsFrom_some (fS f.sm).names (L'+1) [] (.inl h));obtain⟨o,o1,o2⟩:=rE Y hc;refine⟨c,o,hc,mlZ _ o1,?_⟩
    rw [o2,ja (by show (fS f.sm).names.lookup x≠_;rw [h];decide) hzn g1]
  have Pr:Pres ⟨st.H,st.dyn,aD,st.bas⟩ zz:=hp _ _ _ _ _ _ hrun
  have fin:∀v' s1,RetOk w F2 (cells++X) l {s with heap:=h₁,toks:=tk} v1 zz v' s1→LeaveK F.h₀ F.L m g Rz v' s1:=by
   rintro v' s1 ⟨m1,l2,nn,x,sm,vr⟩
   obtain⟨l3,a1,a2,a3,a4,a5,a6⟩:=rD n0.H n0.bq x Pr nn.H nn.bq vr
   refine leaveK_ (news':=l3.RL++(l3.im++X)) nn.F (fun p hp=>nn.N p ?_) fun Fr' N''=>?_
   ·rcases maZ hp with h|h
    ·exact mlZ _ (a4 p h)
    ·rw [a5]at h;rcases maZ h with h|h
     ·exact mrZ _ (mlZ _ h)
     ·exact mrZ _ (mrZ _ (mrZ _ h))
   ·refine k v' s1 l3 ⟨Fr',N'',?_,fun p hp q hq=>?_,fun q hq=>?_,?_,fun i k hk=>be a2.ks (n0.oq i k hk)⟩ a2 ?_ ?_
    ·exact a1
    ·exact nn.ap p (mrZ _ hp) q (a4 q hq)
    ·exact nn.sm q (a4 q hq)
    ·exact a6
    ·exact Same.trans Same.mk' sm
    ·exact a3
  refine hR F2 S2 R2 _ _ _ _ _ _ _ _ _ _ hrun n2 L2 _ _ fun fl s1 he=>?_
  cases fl with
  |next=>
   obtain⟨n',m1,l2,loc1,st2,_,hr,nn,lr,x,sm⟩:=he;obtain⟨rfl,rfl⟩:=hnil _ _ _ _ _ _ hr;exact fin _ _ ⟨m1,l2,nn,x,sm,.none⟩
  |brk=>exact he.elim
  |cont=>
   obtain⟨K',hK,_⟩:=he;cases hK
  |ret v'=>exact fin _ _ he
section
variable{l:LS}{st:MS}{s:Shared}{E:Value→Shared→Prop}{ev:Cx→Loc→MS→xpZ→MR}
theorem f4(hN:bF ev){cx:Cx}{env:Env}{pos:Pos}:∀{es:List xpZ} {st:MS} {r:List MV×MS},bU ev cx zl st es=some r→(backTo pos (starEach es env)).any (·.1)=false
 |[],_,_,_=>rfl
 |e₁::es,st,r,e=>by
  obtain⟨v,s1,r2,e1,e2,_⟩:=pI e;rw [bS (hN _ _ _ _ _ e1).1];exact f4 hN e2
theorem ez(S:Sit w F)(R:Room F.A d)(hE:bX w d ev)(hN:bF ev){pos:Pos}{f:Value}{first:List Value}{es:List xpZ}{vs:List MV}(hk:keepIn (Kf w.params) f=true)
  (e:bU ev F.scope.names zl st es=some (vs,st')) (n:Now w F.h₀ F.L m X l st s) (hl:LocR F X l zl m)
  (h:∀ws s' l',Now w F.h₀ F.L m X l' st' s'→Ext l l'→Same s s'→l'.VRs vs ws→wpAny (M w) F.A (call f (first++ws)) Q E s'):
  wpAny (M w) F.A (callWith pos f first (backTo pos (starEach es F.env)) []) Q E s:=by
 cases es with
 |nil=>
  obtain⟨rfl,rfl⟩:=Prod.mk.inj (oiZ e);exact callWith_K0 (S.K.keeps n.F.keep) hk (h [] s l n Ext.rfl' Same.rfl' .nil)
 |cons e₁ es=>
  obtain⟨_,_,_,e1,e2,_⟩:=pI e
  exact callWith_K S.K hk (eA S R hE hN e n hl fun ws s' l' n' x' m' r'=>⟨S.K.keeps n'.F.keep,h ws s' l' n' x' m' r'⟩) (bS (hN _ _ _ _ _ e1).1) (f4 hN e2)
theorem bT(S:Sit w F)(R:Room F.A d)(hE:bX w d ev)(hN:bF ev){pos:Pos}{f:String}{first:List Value}{es:List xpZ}{vs:List MV}
  (e:bU ev F.scope.names zl st es=some (vs,st')) (n:Now w F.h₀ F.L m X l st s) (hl:LocR F X l zl m)
  (h:∀ws s' l',Now w F.h₀ F.L m X l' st' s'→Ext l l'→Same s s'→l'.VRs vs ws→wpAny (M w) F.A (call (.builtin f) (first++ws)) Q E s'):
  wpAny (M w) F.A (callWith pos (.builtin f) first (backTo pos (starEach es F.env)) []) Q E s:=by
 cases es with
 |nil=>
  obtain⟨rfl,rfl⟩:=Prod.mk.inj (oiZ e);refine callWith_method0 ?_;have:=h [] s l n Ext.rfl' Same.rfl' .nil
  simpa using this
 |cons e₁ es=>
  obtain⟨_,_,_,e1,e2,_⟩:=pI e;exact callWith_method1 (eA S R hE hN e n hl h) (bS (hN _ _ _ _ _ e1).1) (f4 hN e2)
theorem cr(S:Sit w F)(R:Room F.A d)(hE:bX w d ev)(hN:bF ev){pos:Pos}{f:String}{es:List xpZ}{vs:List MV}(hne:vs≠[])
  (e:bU ev F.scope.names zl st es=some (vs,st')) (n:Now w F.h₀ F.L m X l st s) (hl:LocR F X l zl m)
  (h:∀ws s' l',Now w F.h₀ F.L m X l' st' s'→Ext l l'→Same s s'→l'.VRs vs ws→wpAny (M w) F.A (call (.type f) ws) Q E s'):
  wpAny (M w) F.A (callWith pos (.type f) [] (backTo pos (starEach es F.env)) []) Q E s:=by
 cases es with
 |nil=>exact absurd (Prod.mk.inj (oiZ e)).1.symm hne
 |cons e₁ es=>
  obtain⟨_,_,_,e1,e2,_⟩:=pI e;exact PyProof.Rows.callWith_type1 (eA S R hE hN e n hl h) (bS (hN _ _ _ _ _ e1).1) (f4 hN e2)
theorem Room.c{A:Around}(R:Room A d):ge A d:=⟨by have:=R.1;lia,by have:=R.2;lia⟩
theorem jb(S:Sit w F)(R:Room F.A d)(hC:eC w d ih.cal){f:FI}(hf:dT w.params f){args:List MV}{zq:List Value}{v:MV}(e:ih.cal f args st=some (v,st'))(n:Now w F.h₀ F.L m X l st s)(hv:l.VRs args zq)
  (h:Goes w F m X l s v st' Q):wpAny (M w) F.A (call (.ref f.ad) zq) Q E s:=
 wpAny_call (hC F S F.A S.fr S.hd R.c m X l st s f hf args zq v st' e n hv _ fun v' s' l' n' x' m' r'=>h v' s' l' n' x' m' r')
theorem units_under_make(A:Around)(C:Addr)(zq:List Value):(A.under (.builtin "type.__call__" ⟨.ref C::zq,[]⟩)).units=A.units+1:=rfl
theorem f5(A:Around)(C:Addr)(zq:List Value):(A.under (.builtin "type.__call__" ⟨.ref C::zq,[]⟩)).frames=A.frames:=by
 show pushEnvs [] A.frames=_
 cases A.frames <;>rfl
theorem fJ(A:Around)(C:Addr)(zq:List Value):(A.under (.builtin "type.__call__" ⟨.ref C::zq,[]⟩)).handled=A.handled:=rfl
theorem f6{P:Params}{c:Nat}{x:Str}{f:FI}(h:(dS c mtab).bind (c7 x)=some f):dT P f∧wZ (Kf P) c x f=true:=by
 obtain⟨ms,h1,h2⟩:=Option.bind_eq_some_iff.mp h
 refine⟨(AllM.get (hJ P) h1).get (by rw [←cP];exact h2),?_⟩
 exact ykZ.mp (ykZ.mp (sk P) _ (d2 h1)) _ (hY h2)
theorem xB{P:Params}{x:Str}{f:FI}(h:(x,f) ∈ ftab):dT P f∧Pd (Kf P) x f=true:=by
 have g:∀{l:List (Str×FI)},AllF P l→(x,f) ∈ l→dT P f:=by
  intro l
  induction l with
  |nil=>intro _ h;cases h
  |cons p r ihl=>
   intro a h
   cases h with
   |head=>exact a.1
   |tail _ h=>exact ihl a.2 h
 exact⟨g (ag P) h,ykZ.mp (sj P) _ h⟩
end
theorem QE(P:Params):(mtab.all fun q=>makesIn (Kf P) q.1)=true:=by kernel_rfl
noncomputable def LS.add2(l:LS)(p q:Addr×Obj):LS:=⟨l.RL++[p,q],l.im,l.ks⟩
theorem LS.as_add2(l:LS)(p q:Addr×Obj):(l.add2 p q).as=l.as++[p.1,q.1]:=by simp [LS.as,LS.add2]
section
variable{P:Wd}{l:LS}{st:MS}
theorem HR.snoc2(h:HR P l st){a b:Addr}{o u:Obj}{mo mu:MO}(ha:a ∉ l.as)(hb:b ∉ l.as)(hab:a≠b)(hO:OR P.params (l.as++[a,b]) l.ks l.im mo o)(hU:OR P.params (l.as++[a,b]) l.ks l.im mu u)(hp:mo.plain=true)(hq:mu.plain=true)(lo ba:Nat):
  HR P (l.add2 (a,o) (b,u)) ⟨st.H++[mo,mu],st.dyn,lo,ba⟩:=by
 refine⟨?_,?_,h.imt,h.kn,h.kb,fun i hi=>?_⟩
 ·rw [LS.as_add2]
  show ORs P.params (l.as++[a,b]) l.ks l.im (st.H++[mo,mu]) (l.RL++[(a,o),(b,u)])
  have z:=((h.obj.mono (paZ _ [a,b]) prZ fun _ h=>h).snoc (p:=(a,o)) hO).snoc (p:=(b,u)) hU
  simpa using z
 ·rw [LS.as_add2]
  refine List.nodup_append.mpr ⟨h.nd,by simp [hab],fun x hx y hy=>?_⟩
  simp only [yhZ,ygZ,or_false]at hy;rcases hy with rfl|rfl
  ·exact fun e=>ha (e ▸hx)
  ·exact fun e=>hb (e ▸hx)
 ·have hi':(st.H++[mo,mu])[i]? =some .ktb:=hi
  have hlt:i < st.H.length:=by
   refine Nat.lt_of_not_le fun h=>?_
   rw [yfZ h]at hi';rcases q:i - st.H.length with _|_|k
   ·rw [q]at hi';exact cM ((oiZ hi' ▸rfl:MO.plain mo=false).symm.trans hp)
   ·rw [q]at hi';exact cM ((oiZ hi' ▸rfl:MO.plain mu=false).symm.trans hq)
   ·rw [q]at hi';exact aF hi'
  rw [yaZ hlt]at hi';obtain⟨T,U⟩:=h.tab i hi'
  refine⟨?_,fun j h1 h2=>?_⟩
  ·rw [LS.as_add2];have:=T.len
   refine T.mono (paZ _ _) (fun _ h=>h) ?_
   show ((l.RL++[(a,o),(b,u)]).drop i).take 7=_
   rw [List.drop_append_of_le_length (by lia),List.take_append_of_le_length (by rw [List.length_drop];lia)]
  ·have:=U j h1 h2
   show (st.H++[mo,mu])[i+j]? =_
   rw [yaZ (ybZ.mp this).1];exact this
end
theorem xC{prog:Program}{w:World}{A:Around}{E:Value→Shared→Prop}{s:Shared}{K:Frag}{C L:Addr}{h₀:Heap}{m:Str→Option Value}{news:List (Addr×Obj)}{Q:Value→Shared→Prop}{pos:List Value}{fI:Addr}
  (F:Fr h₀ L s.heap m) (N:News h₀ L s.heap news) (X:K.In s.heap) (hm:makesIn K C=true) (hi:findIn K (.ref C) "__init__"=some (some (.ref fI))) (hf:typeIn K (.ref fI)=some (.type "function"))
  (h:∀x dx h',x=s.heap.objs.size+1→dx=s.heap.objs.size→Fr h₀ L h' m→News h₀ L h' ((x,instObj C dx)::(dx,dictOf [] 0)::news)→(∀p ∈ news,p.1 < dx)→dx < x→
   codeAny (model prog w) (A.under (.builtin "type.__call__" ⟨.ref C::pos,[]⟩)) (.call (.ref fI) ⟨.ref x::pos,[]⟩) (InitBack x fun r s'=>match r with| .ok (.ret v)=>Q v s'| .ok _=>False| .error e=>E e s') {s with heap:=h'}):
  wpAny (model prog w) A (call (.ref C) pos []) Q E s:=by
 obtain⟨hh,g,d,t,os⟩:=s
 refine wpAny_call (make_core (makes_of X hm) (looks_findIn X hi) (fun self=>bind_fn X self hf) (.inl rfl) (h _ hh.objs.size _ rfl rfl ((F.push _).push _) ?_ (fun p hp=>Heap.lt_size (N p hp).1) (Nat.lt_succ_self _)))
 have:=(N.push F emptyDict).push (F.push _) (instObj C hh.objs.size)
 rwa [Heap.size_push]at this
section
variable{l:LS}{st:MS}{s:Shared}{E:Value→Shared→Prop}
theorem rG(S:Sit w F)(R:Room F.A d)(hC:eC w d ih.cal){c:Nat}{args:List MV}{zq:List Value}{v:MV}(e:callC ih c args st=some (v,st'))(n:Now w F.h₀ F.L m X l st s)(hv:l.VRs args zq)
  (h:Goes w F m X l s v st' Q):wpAny (M w) F.A (call (.ref c) zq) Q E s:=by
 refine (?_:Al (callC ih c args st) fun p=>Goes w F m X l s p.1 p.2 Q→wpAny (M w) F.A (call (.ref c) zq) Q E s) (v,st') e h
 clear e h
 refine .ob fun f hf=>.pb fun v0 st2 e1=>.gd fun hv0=>.so fun h=>?_
 obtain⟨hF,hM⟩:=f6 (P:=w.params) hf
 have hmk:makesIn (Kf w.params) c=true:=by
  obtain⟨ms,h1,h2⟩:=Option.bind_eq_some_iff.mp hf;exact ykZ.mp (QE w.params) _ (d2 h1)
 unfold wZ at hM;simp only [Bool.and_eq_true,decide_eq_true_eq]at hM;obtain⟨⟨⟨z1,z2⟩,z3⟩,z4⟩:=hM;have hlow:=llZ (modules_low S.T.nolimit) (leZ n.F.above (Nat.le_of_lt n.F.ns.lt))
 refine xC n.F n.N (S.K.keeps n.F.keep) hmk z2 (beq_iff_eq.mp z3) fun x dx h' hxs hds F' N' l1 l2=>?_
 have hxn:∀p ∈ l.RL,p.1≠x:=fun p hp e=>by
  have a:=l1 p (mlZ _ hp);rw [e]at a;exact absurd (Nat.lt_trans a l2) (Nat.lt_irrefl _)
 have hdn:∀p ∈ l.RL,p.1≠dx:=fun p hp e=>by
  have a:=l1 p (mlZ _ hp);rw [e]at a;exact absurd a (Nat.lt_irrefl _)
 have hx:x ∉ l.as:=fun hm=>by obtain⟨p,hp,e⟩:=List.mem_map.mp hm;exact hxn p hp e
 have hd:dx ∉ l.as:=fun hm=>by obtain⟨p,hp,e⟩:=List.mem_map.mp hm;exact hdn p hp e
 have zr:l.as.length=st.H.length:=n.H.len
 have n1:Now w F.h₀ F.L m X (l.add2 (x,instObj c dx) (dx,dictOf [] 0)) ⟨st.H++[.inst c (Nat.succ st.H.length),.idict c []],st.dyn,st.low,st.bas⟩ {s with heap:=h'}:=by
  refine⟨F',fun p hp=>N' p ?_,n.H.snoc2 hx hd (Nat.ne_of_gt l2) ?_ ?_ rfl rfl _ _,fun p hp q hq=>?_,fun q hq=>?_,fun i o h1 h2=>?_,n.oq⟩
  ·have hp':p ∈ (l.RL++[(x,instObj c dx),(dx,dictOf [] 0)])++(l.im++X):=hp;simp only [yoZ,yhZ,ygZ,or_false]at hp' ⊢;rcases hp' with (h|h|h)|h
   ·exact .inr (.inr (.inl h))
   ·exact .inl h
   ·exact .inr (.inl h)
   ·exact .inr (.inr (.inr h))
  ·refine .inst ?_;rw [←zr];simp
  ·exact .idict .nil (fun _ h=>by cases h) (by simp)
  ·have hq':q ∈ l.RL++[(x,instObj c dx),(dx,dictOf [] 0)]:=hq;have a:=l1 p (mrZ _ (mrZ _ hp));rcases maZ hq' with h|h
   ·exact n.ap p hp q h
   ·simp only [yhZ,ygZ,or_false]at h;rcases h with rfl|rfl
    ·exact Nat.ne_of_lt (Nat.lt_trans a l2)
    ·exact Nat.ne_of_lt a
  ·have hq':q ∈ l.RL++[(x,instObj c dx),(dx,dictOf [] 0)]:=hq;rcases maZ hq' with h|h
   ·exact n.sm q h
   ·simp only [yhZ,ygZ,or_false]at h;rcases h with rfl|rfl
    ·exact bfZ (by show x≠sysModules;rw [hxs];exact Nat.ne_of_gt (Nat.lt_succ_of_lt hlow))
    ·exact bfZ (by show dx≠sysModules;rw [hds];exact Nat.ne_of_gt hlow)
  ·obtain⟨g1,g2⟩:=n.bq i o h1 h2;refine⟨?_,?_⟩
   ·show (st.H++[_,_])[i]? =_
    rw [yaZ (ybZ.mp g1).1];exact g1
   ·show Fits _ (l.RL++[_,_])[i]?
    rw [yaZ g2.lt];exact g2
 have xt:Ext l (l.add2 (x,instObj c dx) (dx,dictOf [] 0)):=⟨by rw [LS.as_add2];exact paZ _ _,prZ,fun _ h=>h⟩
 have hvr:VR (l.add2 (x,instObj c dx) (dx,dictOf [] 0)).as l.ks l.im (.ref st.H.length) (.ref x):=by
  refine .ref ?_;rw [LS.as_add2,←zr];simp
 have R2:ge (F.A.under (.builtin "type.__call__" ⟨.ref c::zq,[]⟩)) d:=by
  have a:=R.1;have b:=R.2;refine⟨?_,?_⟩
  ·rw [depth_under_make];lia
  ·rw [units_under_make];lia
 refine hC F S _ (by rw [f5];exact S.fr) (by rw [fJ];exact S.hd) R2 m X _ _ _ f hF _ (.ref x::zq) _ _ e1 n1 (.cons hvr (xt.vrs hv)) _ fun v' s' l' n' x' m' r'=>?_
 obtain rfl:=VR.noneI (wX hv0 ▸r');exact⟨rfl,h _ _ l' n' (xt.trans x') (Same.trans Same.mk' m') (x'.vr hvr)⟩
end
section
variable{l:LS}{st:MS}{s:Shared}{E:Value→Shared→Prop}
theorem Now.lv(n:Now w F.h₀ F.L m X l st s){a:MV}{v':Value}{vs:List MV}(e:g9 st a=some vs)(hv:l.VR a v'):∃x ws,v'=.ref x∧l.VRs vs ws∧vs.length≤1048576∧((IsTup s.heap x ws.toArray∧a=.tup vs)∨s.heap.IsList x ws.toArray):=by
 cases a with
 |tup us=>
  obtain rfl:=oiZ e;obtain⟨x,ws,rfl,_,hT,hR,hl⟩:=n.tupl hv;exact⟨x,ws,rfl,hR,hl,.inl ⟨hT,rfl⟩⟩
 |ref r=>
  obtain⟨x,ws,ep,rfl,_,hT,hR,hl⟩:=n.lst hv (gr e);exact⟨x,ws,rfl,hR,hl,.inr hT⟩
 |_=>exact aF e
theorem Now.addT(n:Now w F.h₀ F.L m X l st s){D:Addr}{ws:List Value}{h':Heap}{t:Nat}(F':Fr F.h₀ F.L h' m)(N':News F.h₀ F.L h' ((D,ay ws)::(l.RL++(l.im++X)))):Now w F.h₀ F.L m X (l.addT D ws) st {s with heap:=h',toks:=t} where
 F:=F'
 N:=fun p hp=>by
  refine N' p ?_;have hp':p ∈ l.RL++((D,ay ws)::(l.im++X)):=hp;simp only [yoZ,yhZ]at hp' ⊢;rcases hp' with h|h|h
  ·exact .inr (.inl h)
  ·exact .inl h
  ·exact .inr (.inr h)
 H:=⟨n.H.obj.mono prZ prZ fun _ h=>.tail _ h,n.H.nd,fun p hp=>by
  rcases mcZ (show p ∈ (D,ay ws)::l.im from hp)with rfl|h
  ·exact⟨ws,rfl⟩
  ·exact n.H.imt p h,n.H.kn,n.H.kb,fun i hi=>⟨(n.H.tab i hi).1.mono prZ (fun _ h=>.tail _ h) rfl,(n.H.tab i hi).2⟩⟩
 ap:=n.ap
 sm:=n.sm
 bq:=n.bq
 oq:=n.oq
theorem xD(n:Now w F.h₀ F.L m X l st s){a:MV}{v':Value}{vs:List MV}(e:g9 st a=some vs)(hv:l.VR a v')(h:Goes w F m X l s (.int (.ofNat vs.length)) st Q):wpAny (M w) F.A (call (.builtin "len") [v']) Q E s:=by
 obtain⟨x,ws,rfl,hR,hl,hT⟩:=n.lv e hv;have zr:=hR.length
 have g:Q (.int (ws.toArray.size:Nat) (s.toks+1)) {s with toks:=s.toks+1+1}:=by
  have:=h (.int (.ofNat vs.length) (s.toks+1)) {s with toks:=s.toks+1+1} l (n.toks _) Ext.rfl' Same.mk' (.int _ _);rw [zr]at this
  simpa using this
 rcases hT with⟨hT,_⟩|hT
 ·exact PyProof.Rows.len_tuple hT (by simp only [ymZ];lia) g
 ·exact PyProof.Rows.len_list hT (by simp only [ymZ];lia) g
theorem mU(n:Now w F.h₀ F.L m X l st s){a:MV}{v':Value}{vs:List MV}(e:g9 st a=some vs)(hv:l.VR a v')(h:Goes w F m X l s (.tup vs) st Q):wpAny (M w) F.A (call (.type "tuple") [v']) Q E s:=by
 obtain⟨x,ws,rfl,hR,hl,hT⟩:=n.lv e hv;have zr:=hR.length;rcases hT with⟨hT,rfl⟩|hT
 ·exact call_tuple_tup hT (h _ s l n Ext.rfl' Same.rfl' hv)
 ·refine tuple_ofL n.F n.N hT (fun D h' F' N' _=>?_) (by rw [sizeLine_eq];lia)
  exact h _ _ (l.addT D ws) (n.addT (t:=s.toks) F' N') (Ext.addT _ _ _) Same.mk' (.tup (.head _) (hR.mono prZ prZ fun _ h=>.tail _ h) hl)
theorem oI(S:Sit w F)(n:Now w F.h₀ F.L m X l st s){a:MV}{v':Value}{vs:List MV}(e:g9 st a=some vs)(hv:l.VR a v')(h:Goes w F m X l s (.ref st.H.length) (psh st (.list vs)) Q):wpAny (M w) F.A (call (.type "list") [v']) Q E s:=by
 obtain⟨x,ws,rfl,hR,hl,hT⟩:=n.lv e hv;have zr:=hR.length
 have fin:∀h',Fr F.h₀ F.L h' m→(∀b o,s.heap.get? b=some o→h'.get? b=some o)→F.h₀.get? s.heap.objs.size=none→NewPlain h' (l.RL++(l.im++X)) s.heap.objs.size ws.toArray→Q (.ref s.heap.objs.size) {s with heap:=h'}:=by
  rintro h' F' hk _ ⟨⟨c',hD⟩,_⟩
  have N':=news_pushed n.F n.N hk hD rfl
  exact h _ _ (l.add s.heap.objs.size (listOf ws.toArray c')) (n.add (t:=s.toks) F' N' (fun p hp=>n.lt hp) (n.F.notModules (modules_low S.T.nolimit)) (.list (hR.mono (paZ _ _) prZ fun _ h=>h) hl) rfl) (Ext.add _ _ _) Same.mk' (n.newRef _ _)
 rcases hT with⟨hT,_⟩|hT
 ·exact list_copyTP n.F n.N hT (fun h' F' hk h0 _ hN=>fin h' F' hk h0 hN) (by simp only [ymZ];rw [sizeLine_eq];lia)
 ·exact list_copyLP n.F n.N hT (fun h' F' hk h0 _ hN=>fin h' F' hk h0 hN) (by simp only [ymZ];rw [sizeLine_eq];lia)
theorem Now.kept(n:Now w F.h₀ F.L m X l st s){h':Heap}{t:Nat}(hk:∀b o,s.heap.get? b=some o→h'.get? b=some o):Now w F.h₀ F.L m X l st {s with heap:=h',toks:=t}:=
 ⟨n.F.keeps hk,n.N.grown hk,n.H,n.ap,n.sm,n.bq,n.oq⟩
theorem xE(S:Sit w F)(n:Now w F.h₀ F.L m X l st s){a:MV}{v':Value}(e:g9 st a=some [])(hv:l.VR a v')(h:Goes w F m X l s (.bool false) st Q)(hl:∀vs,a≠ .tup vs):wpAny (M w) F.A (call (.builtin "any") [v']) Q E s:=by
 obtain⟨x,ws,rfl,hR,_,hT⟩:=n.lv e hv;cases hR;rcases hT with⟨_,h2⟩|hT
 ·exact absurd h2 (hl _)
 ·have hlt:x < s.heap.objs.size:=by obtain⟨_,e,_⟩:=hT;exact Heap.lt_size e
  refine call_any_walk (wpAny_pyIter_list hT ?_)
  refine⟨s.heap.objs.size,[s.heap.objs.size,x],[s.heap.objs.size],0,_,_,fun _=>false,rfl,Walks.list (A:=F.A.in1) S.hd _ x (Nat.ne_of_lt hlt) #[],
   ⟨⟨_,Heap.get?_push_size _ rfl,rfl,rfl⟩,hT.push _⟩,fun i v s' Q' E' hP hQ=>?_,fun h' tk hk=>?_⟩
  ·simp at hP
  ·refine h _ _ l (n.kept (t:=tk) fun b o e=>hk b o (fun hm=>?_) (Heap.get?_push_of_some _ e)) Ext.rfl' Same.mk' (.bool _)
   rw [List.mem_singleton.mp hm]at e;exact Nat.lt_irrefl _ (Heap.lt_size e)
end
theorem f7{α β:Type}{x:Str}(f:Str×α→β):∀{l:List (Str×α)},c7 x l=none→c7 x (l.map fun p=>(p.1,f p))=none
 |[],_=>rfl
 |p::r,h=>by
  rw [dB]at h;rw [List.map_cons,dB]
  cases q:sq p.1 x with
  |true=>rw [q]at h;exact nomatch h
  |false=>rw [q]at h;exact f7 f h
noncomputable def mV:Mt→Value
 | .fn f=>.ref f.ad
 | .app=>.builtin "list.append"
 | .pop=>.builtin "list.pop"
 | .get=>.builtin "dict.get"
section
variable{l:LS}{st:MS}{s:Shared}{E:Value→Shared→Prop}
theorem Now.ktb(n:Now w F.h₀ F.L m X l st s){r:Nat}{v':Value}(hv:l.VR (.ref r) v')(h1:aH st.H r=some .ktb):
  ∃ax adx ds ep,v'=.ref ax∧InstAt s.heap ax (instObj 86 adx) 86 (some (dictOf ds ep))∧Ents w.params l.as l.ks l.im (ktN.map fun p=>(p.1,.ref (r+p.2))) ds:=by
 rw [aJ]at h1;obtain⟨⟨E,D,W,O,_,hO⟩,_⟩:=n.H.tab r h1;obtain⟨ax,rfl,hr⟩:=hv.refI
 have get:∀j p,((l.RL.drop r).take 7)[j]? =some p→l.RL[r+j]? =some p:=fun j p h=>by
  rw [List.getElem?_take]at h;split at h
  ·rw [List.getElem?_drop]at h;exact h
  ·exact aF h
 obtain⟨⟨a0,b0⟩,g0,o0⟩:=hO.get (i:=0) (o:=.inst 86 (r+1)) rfl
 obtain⟨⟨a1,b1⟩,g1,o1⟩:=hO.get (i:=1) (o:=.idict 86 (ktN.map fun p=>(p.1,.ref (r+p.2)))) rfl
 have g0:l.RL[r]? =some (a0,b0):=get 0 _ g0;have g1:=get 1 _ g1;obtain rfl:=oiZ ((LS.as_get g0).symm.trans hr);obtain⟨a,rfl,hd⟩:=OR.instI o0;obtain⟨ds,ep,rfl,hE,_,_⟩:=OR.idictI o1;obtain rfl:=oiZ ((LS.as_get g1).symm.trans hd);exact⟨_,_,_,_,rfl,InstAt.of_news n.N (mlZ _ (moZ g0)) (mlZ _ (moZ g1)),hE⟩
theorem oJ{w:Wd}{P:Params}{as:List Addr}{ks:List (Bool×Int)}{im:List (Addr×Obj)}{es:List (MV×MV)}{o:Obj}(h:OR P as ks im (.dict es) o):o.ExactDict:=by
 obtain⟨_,⟨zw,_,ho⟩|⟨xs,ds,ep,_,hc,_⟩⟩:=h.dictI
 ·obtain⟨_,_,hc,_⟩:=ho w.w;exact hc
 ·exact hc
theorem GT{c:Nat}{x:Str}:Al (UC c x) fun k=>∃f,k=.fn f∧(dS c mtab).bind (c7 x)=some f:=.ob fun f h=>.so ⟨f,rfl,h⟩
theorem t6{o:MO}{x:Str}:Al (ew st x o) fun k=>∀f,k=.fn f→∃c,(dS c mtab).bind (c7 x)=some f:=by
 have C:∀{c},Al (UC c x) fun k=>∀f,k=.fn f→∃c,(dS c mtab).bind (c7 x)=some f:=fun {c}=>.mono GT fun k ⟨f,e,h⟩ g q=>⟨c,(by injection (e.symm.trans q)with z;exact z ▸h)⟩
 cases o with
 |inst c d=>
  delta ew
  exact .inA fun _ _ _ _ _=>.gd fun _=>C
 |ktb=>
  delta ew
  exact .gd fun _=>C
 |list vs=>
  delta ew
  refine .bl (fun _=>.so fun _ q=>?_) fun _=>.gd fun _=>.so fun _ q=>?_ <;>cases q
 |dict es=>
  delta ew
  refine .gd fun _=>.so fun _ q=>?_
  cases q
 |_=>exact .no
theorem jc{a:MV}{x:Str}{f:FI}(e:cp st a x=some (.fn f)):∃c,(dS c mtab).bind (c7 x)=some f:=by
 refine (?_:Al (cp st a x) fun k=>∀f,k=.fn f→∃c,(dS c mtab).bind (c7 x)=some f) _ e f rfl
 cases a with
 |top t=>
  delta cp
  refine .gd fun _=>.gd fun _=>.so fun _ q=>?_
  cases q
 |ref r=>
  delta cp
  exact .ob fun _ _=>t6
 |_=>exact .no
theorem AZ{α:Type}{o:Option α}(h:Fq o=true):o=none:=match o,h with
 |none,_=>rfl
theorem oK{K:Frag}{c:Nat}{x:Str}{f:FI}(h:wZ K c x f=true):plainGet K c x=true∧findIn K (.ref c) x=some (some (.ref f.ad))∧isFn K (.ref f.ad)=true∧keepIn K (.ref f.ad)=true:=
 have a:=abZ h;have b:=abZ a.1;have c:=abZ b.1
 ⟨c.1,of_decide_eq_true c.2,b.2,a.2⟩
theorem oM(S:Sit w F)(n:Now w F.h₀ F.L m X l st s){a:MV}{v':Value}{x:Str}{k:Mt}{pl:Sem Bool}{Q:Value×List Value→Shared→Prop}(hv:l.VR a v')(e:cp st a x=some k)(h:Q (mV k,[v']) s):wpAny (M w) F.A (getMethod v' x pl) Q E s:=by
 refine (?_:Al (cp st a x) fun k=>Q (mV k,[v']) s→wpAny (M w) F.A (getMethod v' x pl) Q E s) k e h
 cases a with
 |top t=>
  obtain rfl:=hv.topI
  delta cp
  refine .gd fun ht=>.gd fun hx=>.so fun h=>?_
  obtain rfl:=sq_iff.mp hx
  obtain⟨hc,_⟩:=f0 (k:=0) (t:=t) (r:=AL 0 (jO t)) (show gd (pC t) _=_ by rw [ht];rfl) w.params
  obtain⟨zw,_,hD,_⟩:=n.top S hc;exact getMethod_builtin hD.typeIs PySem.F.plainAttrs_dict PySem.F.slot_dict_get PySem.F.type_dict_get hD.mapOf.noDict h
 |ref r=>
  delta cp
  refine .ob fun o h1=>?_
  cases o with
  |inst c dd=>
   delta ew
   refine .inA fun c' d' es ho h2=>.gd fun hs=>?_
   injection ho with e1 e2;subst e1 e2
   refine .ob fun f hf=>.so fun h=>?_
   obtain⟨ax,adx,ds,ep,rfl,_,_,I,hE,_,_⟩:=n.inst hv h1 h2;obtain⟨z1,z2,z3,z4⟩:=oK (f6 (P:=w.params) hf).2;exact method_inst n.F S.K I z1 z2 z3 (hE.none (AZ hs)) h
  |ktb=>
   delta ew
   refine .gd fun hs=>.ob fun f hf=>.so fun h=>?_
   obtain⟨ax,adx,ds,ep,rfl,I,hE⟩:=n.ktb hv h1;obtain⟨z1,z2,z3,z4⟩:=oK (f6 (P:=w.params) hf).2;exact method_inst n.F S.K I z1 z2 z3 (hE.none (f7 _ (AZ hs))) h
  |list vs=>
   obtain⟨ax,ws,ep,rfl,hg,hT,_,_⟩:=n.lst hv h1;have hd:s.heap.NoDictAt (.ref ax):=⟨_,(n.N _ (mlZ _ (moZ hg))).1,rfl⟩
   delta ew
   refine .bl (fun hx=>.so fun h=>?_) fun _=>.gd fun hx=>.so fun h=>?_
   ·obtain rfl:=sq_iff.mp hx;exact getMethod_list_of PySem.F.slot_list_append PySem.F.type_list_append hT hd h
   ·obtain rfl:=sq_iff.mp hx;exact getMethod_list_of PySem.F.slot_list_pop PySem.F.type_list_pop hT hd h
  |dict es=>
   delta ew
   refine .gd fun hx=>.so fun h=>?_
   obtain rfl:=sq_iff.mp hx;obtain⟨ax,ob,rfl,_,h3,_,hO⟩:=n.at hv h1;have hE:=oJ (w:=w) hO
   exact getMethod_builtin (T:="dict") ⟨ob,h3,hE.1⟩ PySem.F.plainAttrs_dict PySem.F.slot_dict_get PySem.F.type_dict_get (fun a ea=>Value.ref.inj ea ▸⟨ob,h3,hE.2.1⟩) h
  |_=>exact .no
 |_=>exact .no
end
theorem oN(l:List Value)(y:Value):((l++[y]).toArray.eraseIdxIfInBounds ((l++[y]).toArray.size - 1))=l.toArray:=by
 have h:(l++[y]).toArray.size - 1=l.length:=by simp
 rw [h]
 have hb:l.length < (l++[y]).toArray.size:=by simp
 rw [Array.eraseIdxIfInBounds,dif_pos hb]
 apply Array.toList_inj.mp
 simp [List.eraseIdx_append_of_length_le]
section
variable{l:LS}{st:MS}{s:Shared}{E:Value→Shared→Prop}
theorem xF(n:Now w F.h₀ F.L m X l st s){r:Nat}{vs:List MV}{v:MV}{a' v':Value}(ha:l.VR (.ref r) a')(hv:l.VR v v')(h1:aH st.H r=some (.list vs))(hl:vs.length < 1048576)
  (h:Goes w F m X l s .none (wr st r (.list (vs++[v]))) Q):wpAny (M w) F.A (call (.builtin "list.append") [a',v']) Q E s:=by
 obtain⟨ax,ws,ep,rfl,hg,hT,hR,_⟩:=n.lst ha h1;have hm:=(n.N _ (mlZ _ (moZ hg))).1;have zr:=hR.length
 refine append_at hm (fun h' hs ho=>?_) (by simp only [ymZ];rw [sizeLine_eq];lia)
 have e:ws.toArray.push v'=(ws++[v']).toArray:=by simp
 rw [e]at ho
 have nn:=n.put (t:=s.toks) (mo:=.list (vs++[v])) (o:=listOf (ws++[v']).toArray (ep+1)) hg hs ho (.list (hR.snoc hv) (by simp;lia)) h1 rfl rfl
 exact h _ _ _ nn (Ext.put _ hg) Same.mk' .none
theorem xG(n:Now w F.h₀ F.L m X l st s){r:Nat}{vs r':List MV}{v:MV}{a':Value}(ha:l.VR (.ref r) a')(h1:aH st.H r=some (.list vs))(hr:vs.reverse=v::r')
  (h:Goes w F m X l s v (wr st r (.list r'.reverse)) Q):wpAny (M w) F.A (call (.builtin "list.pop") [a']) Q E s:=by
 obtain⟨ax,ws,ep,rfl,hg,hT,hR,hb⟩:=n.lst ha h1;have hm:=(n.N _ (mlZ _ (moZ hg))).1;have zr:=hR.length;have hrev:=hR.reverse;rw [hr]at hrev;obtain⟨y,ys,hq,hv,hs⟩:=hrev.consI
 have hw:ws=ys.reverse++[y]:=by rw [←List.reverse_reverse ws,hq];simp
 subst hw
 have hrl:r'.length≤1048576:=by
  have:=congrArg List.length hr;simp at this;lia
 refine call_meets PySem.F.slot_list_pop (T:="list") (self:=.ref ax) (s:=s) ⟨_,hm,rfl⟩ PySem.F.entry_list_pop (PySem.F.args_list_pop_1 _) (PySem.MeetsSeq.list_pop_last ax (ys.reverse++[y]).toArray ep y (by simp) (by simp only [ymZ];rw [sizeLine_eq];lia)) ⟨hm,?_⟩
 have ho:(s.heap.update ax (Obj.mapSeq fun xs=>xs.eraseIdxIfInBounds ((ys.reverse++[y]).toArray.size - 1))).get? ax=some (Obj.mapSeq (fun xs=>xs.eraseIdxIfInBounds ((ys.reverse++[y]).toArray.size - 1)) (listOf (ys.reverse++[y]).toArray ep)):=Heap.get?_update_self _ hm rfl
 have e:∃ep',Obj.mapSeq (fun xs=>xs.eraseIdxIfInBounds ((ys.reverse++[y]).toArray.size - 1)) (listOf (ys.reverse++[y]).toArray ep)=listOf ys.reverse.toArray ep':=by
  have z:=oN ys.reverse y
  refine⟨(if ((ys.reverse++[y]).toArray.eraseIdxIfInBounds ((ys.reverse++[y]).toArray.size - 1)).size==(ys.reverse++[y]).toArray.size then ep else ep+1),?_⟩
  show (⟨.type "list",none,.seq ((ys.reverse++[y]).toArray.eraseIdxIfInBounds ((ys.reverse++[y]).toArray.size - 1)) (if ((ys.reverse++[y]).toArray.eraseIdxIfInBounds ((ys.reverse++[y]).toArray.size - 1)).size==(ys.reverse++[y]).toArray.size then ep else ep+1),#[]⟩:Obj)=_
  rw [z]
 obtain⟨ep',e⟩:=e;rw [e]at ho
 have nn:=n.put (t:=s.toks) (mo:=.list r'.reverse) (o:=listOf ys.reverse.toArray ep') hg (Heap.SameBut.update ..) ho (.list hs.reverse (by simpa using hrl)) h1 rfl rfl
 exact h _ _ _ nn (Ext.put _ hg) Same.mk' ((Ext.put _ hg).vr hv)
theorem oO(S:Sit w F)(n:Now w F.h₀ F.L m X l st s){t:Nat}{k:Int}{u:Tok}{dv:Value}{r:Option Int}(e:qi k t=some r)(h:∀x t',(match r with|some v=>∃u,x=.int v u|none=>x=dv)→Q x {s with toks:=t'}):wpAny (M w) F.A (call (.builtin "dict.get") [.ref t,.int k u,dv]) Q E s:=by
 obtain⟨hc,rfl⟩:=f0 e w.params;obtain⟨zw,h1,h2,h3⟩:=n.top S hc
 refine call_meetsIn PySem.F.slot_dict_get h2.typeIs PySem.F.entry_dict_get (PySem.F.args_dict_get_3 _ _ _) (meets_dict_get_default (intKind pg w.w) (k:=k) t (by show Value.isInt k (.int k u)=true;exact bZ k u) h1 dv) ⟨_,h2.mapOf,?_⟩
 refine h _ _ ?_;have:=h3 k
 cases q:AL k (jO t)with
 |none=>rw [q]at this;rw [show valueAt zw k=none from this];rfl
 |some v=>
  rw [q]at this;obtain⟨x,hx⟩:=this;rw [hx];exact⟨x,rfl⟩
theorem Found.getD{as:List Addr}{ks:List (Bool×Int)}{im:List (Addr×Obj)}{o:Option MV}{x:Option Value}{dv:MV}{dv':Value}(h:Found as ks im o x)(hd:VR as ks im dv dv'):VR as ks im (o.getD dv) (x.getD dv'):=match o,x,h with
 |none,none,_=>hd
 |some _,some _,h=>h
theorem mW(n:Now w F.h₀ F.L m X l st s)(hA:F.A.units+10 < cLine){r:Nat}{es:List (MV×MV)}{k dv:MV}{a' k' dv':Value}{o:Option MV}(ha:l.VR (.ref r) a')(hk:l.VR k k')(hd:l.VR dv dv')(h1:aH st.H r=some (.dict es))(e:gp k es=some o)
  (h:Goes w F m X l s (o.getD dv) st Q):wpAny (M w) F.A (call (.builtin "dict.get") [a',k',dv']) Q E s:=by
 obtain⟨q,e⟩:=fU e;rcases n.key q hk with⟨i,t,k1,rfl⟩|⟨rr,ka,k1,rfl,k2⟩
 ·obtain⟨a,ob,zw,rfl,_,hs,hD,hK,_⟩:=n.dictI ha h1 k1 e;have f:=hK.look n.H.kn n.H.kb k1 e
  refine call_meetsIn PySem.F.slot_dict_get hD.typeIs PySem.F.entry_dict_get (PySem.F.args_dict_get_3 _ _ _) (meets_dict_get_default (intKind pg w.w) (k:=i) a (by show Value.isInt i (.int i t)=true;exact bZ i t) hs dv') ⟨_,hD.mapOf,?_⟩
  exact h _ _ l (n.toks _) Ext.rfl' Same.mk' (f.getD hd)
 ·obtain⟨a,ob,xs,rfl,_,hs,hD,hK,_⟩:=n.dictR ha h1 k1 e;have f:=hK.look n.H.kn n.H.kb k1 e
  refine call_meetsIn PySem.F.slot_dict_get hD.typeIs PySem.F.entry_dict_get (PySem.F.args_dict_get_3 _ _ _) (meetsH_dict_get_default (dY pg w.w) a ka hs dv') ⟨(by show F.A.units+1+1 < cLine;lia),rr,xs,k2,hD,?_⟩
  exact h _ _ l (n.toks _) Ext.rfl' Same.mk' (f.getD hd)
theorem rH(S:Sit w F)(R:Room F.A d)(hC:eC w d ih.cal){k:Mt}{a:MV}{args:List MV}{a':Value}{ws:List Value}{v:MV}(hk:∀f,k=.fn f→dT w.params f)(e:lu ih k a args st=some (v,st'))(n:Now w F.h₀ F.L m X l st s)(ha:l.VR a a')(hv:l.VRs args ws)
  (h:Goes w F m X l s v st' Q):wpAny (M w) F.A (call (mV k) (a'::ws)) Q E s:=by
 refine (?_:Al (lu ih k a args st) fun p=>Goes w F m X l s p.1 p.2 Q→wpAny (M w) F.A (call (mV k) (a'::ws)) Q E s) (v,st') e h
 cases k with
 |fn f=>exact fun p e h=>jb S R hC (hk _ rfl) e n (.cons ha hv) h
 |app=>
  refine .ob fun r hr=>.a1 fun v ea=>.ob fun vs h1=>.ok fun hl=>.so fun h=>?_
  obtain rfl:=cf hr;subst ea;obtain⟨_,_,rfl,hv1,hs⟩:=hv.consI;obtain rfl:=hs.nilI;exact xF n ha hv1 (gr h1) hl h
 |pop=>
  refine .ob fun r hr=>.a0 fun ea=>.ob fun vs h1=>?_
  obtain rfl:=cf hr;subst ea;obtain rfl:=hv.nilI
  cases hr:vs.reverse with
  |nil=>exact .no
  |cons v r'=>exact .so fun h=>xG n ha (gr h1) hr h
 |get=>
  refine .a2 fun k d ea=>?_
  subst ea;obtain⟨k',_,rfl,hk,hs⟩:=hv.consI;obtain⟨d',_,rfl,hd,hs⟩:=hs.consI;obtain rfl:=hs.nilI
  cases a with
  |top t=>
   obtain rfl:=ha.topI
   refine .ob fun i hi=>.ob fun r q p e h=>?_
   obtain⟨u,rfl⟩:=VR.intI (bd hi ▸hk)
   refine oO S n q fun x t' hx=>?_
   cases r with
   |none=>
    obtain rfl:=oiZ e
    obtain rfl:=(show x=d' from hx)
    exact h _ _ l (n.toks _) Ext.rfl' Same.mk' hd
   |some v=>
    obtain rfl:=oiZ e;obtain⟨u,rfl⟩:=hx;exact h _ _ l (n.toks _) Ext.rfl' Same.mk' (.int _ _)
  |ref r=>
   refine .ob fun o h1=>.ob fun es hes=>.ob fun v q=>?_
   cases o <;>first|exact aF hes|skip
   obtain rfl:=oiZ hes
   have G:=fun h=>mW (Q:=Q) (E:=E) n (ltZ (Nat.add_le_add_left (by decide) _) R.u) ha hk hd h1 q h
   cases v with
   |none=>exact .so G
   |some v=>exact .so G
  |_=>exact .no
end
section
variable{w:World}{E:Value→Shared→Prop}{s:Shared}
theorem gI{sl:Addr}{n:Nat}{u:Tok}{Q:Int×Int×Nat→Shared→Prop}(hs:s.heap.IsSliceOf sl .none .none (.int (-1) u))(hn:n≤1)(h:Q ((n:Int) - 1,-1,n) s):
  wpAny (model prog w) A (Builtin.Slice.sliceApplied (.ref sl) (pure (n:Int))) Q E s:=by
 obtain⟨os,hos,hcs,hds⟩:=id hs;unfold Builtin.Slice.sliceApplied Builtin.Slice.sliceFields;refine wpAny_bind (wpAny_bind (wpAny_field hos hds (x:=.none) rfl (wpAny_bind (wpAny_field hos hds (x:=.none) rfl (wpAny_bind (wpAny_field hos hds (x:=.int (-1) u) rfl (wpAny_pure ?_)))))));refine wpAny_bind (slicePart_int ?_)
 show wpAny _ _ (if ((-1:Int)==0)=true then _ else _) _ _ s
 rw [if_neg (by decide)]
 refine wpAny_bind (slicePart_none (wpAny_bind (slicePart_none (wpAny_bind (wpAny_pure ?_)))))
 show wpAny _ _ (match Builtin.Slice.sliceAdjust none none (-1) (n:Int)with|(lo,hi)=>pure (lo,(-1:Int),Builtin.Slice.slicePlaces lo hi (-1))) _ _ s
 have e1:Builtin.Slice.sliceAdjust none none (-1) (n:Int)=((n:Int) - 1,-1):=by
  unfold Builtin.Slice.sliceAdjust
  have h1:((-1:Int) < 0):=by lia
  simp only [h1,if_true]
 rw [e1]
 have e2:Builtin.Slice.slicePlaces ((n:Int) - 1) (-1) (-1)=n:=by
  unfold Builtin.Slice.slicePlaces
  have h1:¬((-1:Int) > 0):=by lia
  simp only [h1,if_false]
  rcases Nat.le_one_iff_eq_zero_or_eq_one.mp hn with rfl|rfl <;>rfl
 show wpAny _ _ (pure ((n:Int) - 1,(-1:Int),Builtin.Slice.slicePlaces ((n:Int) - 1) (-1) (-1))) _ _ s
 rw [e2];exact wpAny_pure h
theorem f8{t sl:Addr}{items:Array Value}{u:Tok}{Q:Value→Shared→Prop}(ht:IsTup s.heap t items)(hs:s.heap.IsSliceOf sl .none .none (.int (-1) u))(hn:items.size≤1)
  (h:Q (.ref s.heap.objs.size) {s with heap:=s.heap.push {cls:=.type "tuple",data:=.seq items}}):wpAny (model prog w) A (getItem (.ref t) (.ref sl)) Q E s:=by
 obtain⟨os,hos,hcs,hds⟩:=id hs;have hTs:s.TypeIs (.ref sl) "slice":=⟨os,hos,hcs⟩
 have hdrop:sizeOk (.seq items):=by
  show items.size≤sizeLine
  rw [sizeLine_eq];lia
 unfold getItem
 try with_reducible refine wpAny_holding ?_
 first|refine wpAny_bind (wpAny_pure ?_)|skip
 refine wpAny_bind (wpAny_sequenceKey ht.typeIs (by decide) ?_)
 refine wpAny_bind (wpAny_callSpecial?_slot (name:=sO "__getitem__") ht.typeIs slot_tuple_getitem
  (wpAny_call_entry slot_tuple_getitem ht.typeIs entry_tuple_getitem ?_ (args_tuple_getitem _ _)))
 show wpAny _ _ (Builtin.Tuple.tupleItemsOf (.ref t) >>=_) _ _ s
 refine wpAny_bind (tupleItemsOf_ ht ?_);refine wpAny_bind (wpAny_typeOf hTs ?_)
 rw [if_pos (by decide)]
 refine wpAny_bind (gI hs hn ?_)
 have hno:¬((((items.size:Int) - 1)==0 && (-1:Int)==1 && items.size==items.size)=true):=by simp
 show wpAny _ _ (if ((((items.size:Int) - 1)==0 && (-1:Int)==1 && items.size==items.size)=true) then _ else _) _ _ s
 have hp:((List.range items.size).filterMap fun (k:Nat)=>items[(((items.size:Int) - 1)+(k:Int) * (-1)).toNat]?).toArray=items:=by
  obtain⟨l⟩:=items
  match l,hn with
  |[],_=>rfl
  |[x],_=>rfl
  |x::y::r,hn=>simp at hn
 rw [if_neg hno,hp]
 first
  |exact wpAny_bind (m:=Builtin.Tuple.tupleExact _) (wpAny_newObj_type (wpAny_pure ⟨_,rfl,wpAny_pure h⟩) hdrop)
  |exact wpAny_bind (m:=Builtin.Tuple.tupleExact _) (wpAny_newObj_type (wpAny_bind (wpAny_pure (wpAny_pure ⟨_,rfl,wpAny_pure h⟩))) hdrop)
  |exact wpAny_bind (wpAny_bind (m:=Builtin.Tuple.tupleExact _) (wpAny_newObj_type (wpAny_pure (wpAny_pure ⟨_,rfl,wpAny_pure h⟩)) hdrop))
  |exact wpAny_bind (wpAny_bind (m:=Builtin.Tuple.tupleExact _) (wpAny_newObj_type (wpAny_pure ⟨_,rfl,wpAny_pure h⟩) hdrop))
end
section
variable{l:LS}{st:MS}{s:Shared}{E:Value→Shared→Prop}
theorem t8(S:Sit w F)(n:Now w F.h₀ F.L m X l st s){r k j:Nat}{p p':Pos}{vs:List MV}{v':Value}{value:xpZ}(hv:l.VR (.ref r) v')(h1:aH st.H r=some (.list vs))
  (h:Goes w F m X l s (.ref st.H.length) (psh st (.list (vs.drop k))) Q):
  wpAny (M w) F.A (eval (.Slice (some (.Constant (.int (.ofNat k)) j p)) none none p') F.env) (fun i s2=>wpAny (M w) F.A (subscriptTail value (.Slice (some (.Constant (.int (.ofNat k)) j p)) none none p') v' i) Q E s2) E s:=by
 refine wpAny_Slice ?_;rw [evalPart_some,evalPart_none];refine wpAny_Constant_int (wpAny_pure (wpAny_pure ?_));have n1:=n.toks (s.toks+1);obtain⟨ax,ws,ep,rfl,hg,hT,hR,hl⟩:=n1.lst hv h1;have zr:=hR.length
 have n2:=n1.kept (h':=s.heap.push {cls:=.type "slice",data:=.fields #[.int (.ofNat k) s.toks,.none,.none]}) (t:=s.toks+1) (fun b o e=>Heap.get?_push_of_some _ e)
 refine tail_any (T:="list") (Heap.IsList.typeIs (s:={s with heap:=s.heap.push {cls:=.type "slice",data:=.fields #[.int (.ofNat k) s.toks,.none,.none]},toks:=s.toks+1}) (hT.push _)) slot_list_getitem.lookup
  (wpAny_getItem_list_slice (hT.push _) (Heap.IsSliceOf.new ..) (.int _ _) .none .none (by simp) ?_ (by simp only [ymZ];rw [sizeLine_eq];lia)) rfl
 have e:slicePick ws.toArray (some (Int.ofNat k)) none none=(ws.drop k).toArray:=slicePick_from' ws.toArray k;rw [e]
 have nn:=n2.push (t:=s.toks+1) S (o:=listOf (ws.drop k).toArray 0) (mo:=.list (vs.drop k)) rfl (.list ((hR.mono (paZ _ _) prZ fun _ h=>h).drop k) (by simp;lia)) rfl
 exact h _ _ _ nn (Ext.add _ _ _) Same.mk' (n2.newRef _ _)
theorem t9(S:Sit w F)(n:Now w F.h₀ F.L m X l st s){vs:List MV}{j:Nat}{p p' p'':Pos}{v':Value}{value:xpZ}(hv:l.VR (.tup vs) v')(h1:vs.length≤1)
  (h:Goes w F m X l s (.tup vs) st Q):
  wpAny (M w) F.A (eval (.Slice none none (some (.UnaryOp .USub (.Constant (.int 1) j p) p')) p'') F.env) (fun i s2=>wpAny (M w) F.A (subscriptTail value (.Slice none none (some (.UnaryOp .USub (.Constant (.int 1) j p) p')) p'') v' i) Q E s2) E s:=by
 refine wpAny_Slice ?_;rw [evalPart_some,evalPart_none];refine wpAny_pure (wpAny_pure (wpAny_UnaryOp (wpAny_Constant_int (P.neg_int ?_))));obtain⟨ax,ws,rfl,hi,hT,hR,hl⟩:=n.tupl hv;have zr:=hR.length
 let so:Obj:={cls:=.type "slice",data:=.fields #[.none,.none,.int (-1) (s.toks+1)]}
 have n2:=n.kept (h':=s.heap.push so) (t:=s.toks+1+1) (fun b o e=>Heap.get?_push_of_some _ e)
 have hT2:IsTup (s.heap.push so) ax ws.toArray:=hT.keeps fun _ _ e=>Heap.get?_push_of_some _ e
 refine tail_any (T:="tuple") (s:={s with heap:=s.heap.push so,toks:=s.toks+1+1}) hT2.typeIs slot_tuple_getitem.lookup
  (f8 hT2 (Heap.IsSliceOf.new ..) (by simp only [ymZ];lia) ?_) rfl
 exact h _ _ _ (n2.pushT (t:=s.toks+1+1) ws) (Ext.addT _ _ _) Same.mk' (.tup (.head _) (hR.mono prZ prZ fun _ h=>.tail _ h) hl)
end
noncomputable def V8:ItemKind Value:=⟨fun a v=>a=v,fun v=>some v,fun a v h=>by rw [h]⟩
theorem A0:∀ws:List Value,AreOf V8 ws ws
 |[]=>.nil
 |w::ws=>.cons rfl (A0 ws)
noncomputable def fld(h:Heap)(w:Value)(i:Nat):Option Int:=match w with
 | .ref a=>match h.get? a with
  |some o=>match o.data with
   | .seq its _=>match its[i]? with
    |some (.int k _)=>some k
    |_=>none
   |_=>none
  |none=>none
 |_=>none
def wC(e:xpZ):Nat:=((Fv e).bind fun p=>pG p.2).getD 0
theorem gu{env:Env}{names:List (Str×NameKind)}(h:∀p ∈ names,p.2=.free→∃a,env.cells.lookup p.1=some a)(sc:Scope)(e:sc.names=names):∃cl,closureFor sc env=pure cl:=by
 unfold closureFor;rw [e]
 have go:∀(names:List (Str×NameKind)) (zo:List (Str×Addr)),(∀p ∈ names,p.2=.free→∃a,env.cells.lookup p.1=some a)→
   ∃cl,(forIn names zo fun (x:Str×NameKind) (r:List (Str×Addr))=>(match x with
    |(name,kind)=>if (kind==NameKind.free)=true then do let a ←cellOf env name;pure (ForInStep.yield ((name,a)::r)) else pure (ForInStep.yield r):Sem (ForInStep (List (Str×Addr)))))=pure cl:=by
  intro names
  induction names with
  |nil=>intro zo _;exact⟨zo,rfl⟩
  |cons p r ih=>
   intro zo h;obtain⟨x,k⟩:=p;rw [List.forIn_cons]
   by_cases hk:(k==NameKind.free)=true
   ·obtain⟨a,ha⟩:=h _ (.head _) (eq_of_beq hk)
    have hc:cellOf env x=pure a:=by unfold cellOf;rw [ha]
    obtain⟨cl,hcl⟩:=ih ((x,a)::zo) fun p hp=>h p (.tail _ hp)
    refine⟨cl,?_⟩;simp only [hk,if_true,hc,pure_bind];exact hcl
   ·obtain⟨cl,hcl⟩:=ih zo fun p hp=>h p (.tail _ hp)
    refine⟨cl,?_⟩;simp only [hk,pure_bind];exact hcl
 obtain⟨cl,hcl⟩:=go names [] h;refine⟨cl,?_⟩;simp only [bind_pure]at hcl ⊢;exact hcl
theorem i6{it:xpZ}(h:oF it=true)(env:Env)(x:Value):foldedSetIterable it env x=pure x:=by cases it <;>first|rfl|cases h
theorem CarriedAll.int{us:List Value}{ds:List PyData}(h:CarriedAll us ds):us.length=ds.length:=by
 induction h with
 |nil=>rfl
 |cons _ _ ih=>simp [ih]
section
variable{l:LS}{st:MS}{s:Shared}{E:Value→Shared→Prop}
theorem Sit.mods(S:Sit w F){a:Addr}(h:F.h₀.get? a=none):(a==sysModules)=false:=by
 refine bfZ fun e=>?_
 obtain⟨o,ho⟩:=Option.isSome_iff_exists.mp (kf1 w.params);have:=S.K _ _ ho
 rw [e,show sysModules=1 from rfl,this]at h;cases h
theorem Now.addN(n:Now w F.h₀ F.L m X l st s)(S:Sit w F){a:Addr}{o:Obj}{h':Heap}{t:Nat}{mo:MO}(F':Fr F.h₀ F.L h' m)(N':News F.h₀ F.L h' ((a,o)::(l.RL++(l.im++X))))(ne:∀p ∈ l.RL++(l.im++X),p.1≠a)
  (hO:OR w.params (l.as++[a]) l.ks l.im mo o) (hp:mo.plain=true):Now w F.h₀ F.L m X (l.add a o) (psh st mo) {s with heap:=h',toks:=t} where
 F:=F'
 N:=fun p hp=>by
  refine N' p ?_;have hp':p ∈ (l.RL++[(a,o)])++(l.im++X):=hp;simp only [yoZ,yhZ,ygZ,or_false]at hp' ⊢;rcases hp' with (h|h)|h
  ·exact .inr (.inl h)
  ·exact .inl h
  ·exact .inr (.inr h)
 H:=n.H.snoc (fun hm=>by obtain⟨p,hp,e⟩:=List.mem_map.mp hm;exact ne p (mlZ _ hp) e) hO hp _ _
 ap:=fun p hp q hq=>by
  have hq':q ∈ l.RL++[(a,o)]:=hq;rcases maZ hq' with h|h
  ·exact n.ap p hp q h
  ·cases msZ h;exact ne p (mrZ _ (mrZ _ hp))
 sm:=fun q hq=>by
  have hq':q ∈ l.RL++[(a,o)]:=hq;rcases maZ hq' with h|h
  ·exact n.sm q h
  ·cases msZ h;exact S.mods (N' _ (.head _)).2.2
 bq:=fun i ob h1 h2=>by
  obtain⟨g1,g2⟩:=n.bq i ob h1 h2;refine⟨?_,?_⟩
  ·show (st.H++[mo])[i]? =_
   rw [yaZ (ybZ.mp g1).1];exact g1
  ·show Fits _ (l.RL++[(a,o)])[i]?
   rw [yaZ g2.lt];exact g2
 oq:=n.oq
theorem jd{cx:Cx}{x:Str}:∀{names:List (Str×NameKind)},fz cx zl names=true→∀p ∈ names,p.2=.free→c7 p.1 cx=some .cell∧∃v,c7 p.1 zl=some v
 |[],_,p,hp,_=>by cases hp
 |(y,k)::r,h,p,hp,hf=>by
  unfold fz at h
  have R:fz cx zl r=true→p ∈ r→c7 p.1 cx=some .cell∧∃v,c7 p.1 zl=some v:=fun h hp=>jd (x:=x) h p hp hf
  cases hk:nf k with
  |true=>
   rw [hk]at h;obtain⟨h0,h⟩:=cO h;obtain⟨h2,h⟩:=cO h
   cases hp with
   |head=>exact⟨pH h0,Option.isSome_iff_exists.mp h2⟩
   |tail _ hp=>exact R h hp
  |false=>
   rw [hk]at h
   cases hp with
   |head=>exact cM (hk.symm.trans (show nf k=true from (show k=.free from hf) ▸rfl))
   |tail _ hp=>exact R h hp
theorem ta{x:Str}{v:MV}{w':Value}{e:xpZ}{k:Int}{env:Env}{m₂:Str→Option Value}{A:Around}{s₂:Shared}{Q:Value→Shared→Prop}(n:Now w F.h₀ F.L m X l st s)(hv:l.VR v w')(he:AM x v e=some k)
  (hk:env.scope.kind=.function) (hx:env.kindOf x=some .local) (hd:(x==("__debug__":Str))=false) (hn:s₂.heap.Ns env.locals m₂) (hm:m₂ x=some w') (hh:∀b o,s.heap.get? b=some o→s₂.heap.get? b=some o):
  fld s.heap w' (wC e)=some k∧((∀t s₃,Keeps s₂ s₃→Q (.int k t) s₃)→wpAny (M w) A (eval e env) Q E s₂):=by
 refine (?_:Al (AM x v e) fun k=>fld s.heap w' (wC e)=some k∧((∀t s₃,Keeps s₂ s₃→Q (.int k t) s₃)→wpAny (M w) A (eval e env) Q E s₂)) k he
 refine .ob fun p hp=>.ob fun y hy=>.ob fun i hi=>.gd fun hs=>.ob fun us hus=>.ob fun u hg k' hk'=>?_
 obtain⟨e1,e2⟩:=p;obtain⟨pp,rfl⟩:=AO hp;obtain⟨py,rfl⟩:=jY hy;obtain⟨j,pc,rfl⟩:=nk hi;obtain rfl:=sq_iff.mp hs;obtain rfl:=di hus;obtain rfl:=bd hk';obtain⟨a,ws,rfl,hi,⟨o,ho,hc,kk,hdat⟩,hR,hl⟩:=n.tupl hv;rw [aJ]at hg;obtain⟨u,hu,hvu⟩:=hR.get hg;obtain⟨tt,rfl⟩:=hvu.intI;have hil:=(ybZ.mp hu).1;have zr:=hR.length
 refine⟨?_,fun hQ=>?_⟩
 ·unfold fld;simp only [ho,hdat,List.getElem?_toArray]
  rw [show wC _=i from rfl,hu]
 ·refine Subscript_ (wpAny_Name (wpAny_loadName_local hk hx hn hm (wpAny_Constant_int ?_)) hd);have hT:IsTup s₂.heap a ws.toArray:=⟨o,hh _ _ ho,hc,kk,hdat⟩
  refine item_tupleT (j:=i) (s:={s₂ with toks:=s₂.toks+1}) hT (by show -(2 ^ 63:Int)≤(i:Int);lia) (by show (i:Int) < 2 ^ 63;lia) ?_ hu (hQ _ _ ⟨_,_,rfl,fun _ _ e=>e⟩) (aZ rfl _ _)
  unfold seqIndex?;have e0:(Int.ofNat i)=(i:Int):=rfl;rw [e0]
  have:¬((i:Int) < 0):=by lia
  simp only [this,if_false]
  rw [if_pos (by simp only [Bool.and_eq_true,decide_eq_true_eq];lia)]
  simp
structure CompOk(F:Fm)(zl:Loc)(x:Str)(names:List (Str×NameKind)):Prop where
 fr:∀p ∈ names,p.2=.free→c7 p.1 F.scope.names=some .cell∧∃v,c7 p.1 zl=some v
 hx:names.lookup x=some .local
 hd:(x==("__debug__":Str))=false
 nc:∀y ∈ names,y.2≠ .cell
 nl:∀y ∈ names,y.2=.local→names.lookup y.1=some .local
theorem gJ{x:Str}{names:List (Str×NameKind)}(h:iQ F.scope.names zl x names=true):CompOk F zl x names:=by
 obtain⟨h1,h⟩:=cO h;obtain⟨h2,h⟩:=cO h;obtain⟨h3,h⟩:=cO h
 refine⟨jd (x:=x) h1,(cP _ _).symm.trans (ly h2),bfZ (sq_false.mp ((Bool.not_eq_true' _).mp h3)),fun y hy e=>?_,fun y hy e=>?_⟩
 ·have:=ykZ.mp h y hy;unfold Fw at this;rw [e]at this;exact cM this
 ·have:=ykZ.mp h y hy;unfold Fw at this;rw [e]at this;exact (cP _ _).symm.trans (ly this)
theorem CompOk.clos{x:Str}{sc:Scope}(h:CompOk F zl x sc.names)(hl:LocR F X l zl m):∃cl,closureFor sc F.env=pure cl:=by
 refine gu (names:=sc.names) (fun p hp hf=>?_) sc rfl
 obtain⟨h1,v,h2⟩:=h.fr p hp hf;rw [cP]at h1 h2
 obtain⟨v',_,h3⟩:=hl p.1 v h2 (by unfold bC;rw [cP,h1];rfl)
 rcases h3 with⟨h3,_⟩|⟨_,c,o,hc,_⟩
 ·rw [h1]at h3;cases h3
 ·exact⟨c,hc⟩
theorem rI(S:Sit w F)(R:Room F.A d)(hE:bX w d ih.ev)(hS:gf ih.ev){elt it:xpZ}{x:Str}{px pos:Pos}{ifs:List xpZ}{sc:Scope}{r:Nat}(e1:ih.ev F.scope.names zl st it=some (.ref r,st'))(h1:aH st'.H r=some (.list []))
  (ho:iQ F.scope.names zl x sc.names=true) (hk:sc.kind=.function) (n:Now w F.h₀ F.L m X l st s) (hl:LocR F X l zl m) (h:Goes w F m X l s (.ref st'.H.length) (psh st' (.list [])) Q):
  wpAny (M w) F.A (eval (.ListComp elt [⟨.Name x px,it,ifs,0⟩] sc pos) F.env) Q E s:=by
 have C:=gJ ho;obtain⟨cl,hcl⟩:=C.clos hl
 refine ListComp_DCn (K:=V8) (pz:=fun _=>true) (d:=fun _=>.none) (h₀:=F.h₀) (L:=F.L) (m:=m) S.hd hcl C.nc hk C.nl C.hx (hE F S R m X l st s zl it _ st' e1 n hl _ _ fun v' s1 l1 n1 x1 m1 r1=>?_) (i6 (hS _ _ _ _ _ e1) _)
 obtain⟨ax,ws,ep,rfl,_,hT,hR,_⟩:=n1.lst r1 h1;obtain rfl:=hR.nilI
 refine⟨l1.RL++(l1.im++X),ax,[],[],rfl,hT,.nil,by simp,n1.F,n1.N,fun _ _ _ _ _ _ _ ha=>absurd ha (by simp),fun _ _ _ _ _ _ _ ha=>absurd ha (by simp),fun D ys h' tk F' N' h0 hL hP hC=>?_⟩
 cases hC;obtain⟨⟨c',hD⟩,hne⟩:=hP
 have NN:News F.h₀ F.L h' ((D,listOf #[] c')::(l1.RL++(l1.im++X))):=fun p hp=>by
  rcases mcZ hp with rfl|hp
  ·exact⟨hD,NewPlain.ne_locals ⟨⟨c',hD⟩,hne⟩ F',h0⟩
  ·exact N' p hp
 have nn:=n1.addN (t:=tk) (mo:=.list []) S F' NN hne (.list .nil (by simp)) rfl
 exact h _ _ _ nn (x1.trans (Ext.add _ _ _)) (m1.trans Same.mk') (n1.newRef _ _)
theorem gg{x:Str}{elt:xpZ}{ifs:List xpZ}{as:List Addr}{ks:List (Bool×Int)}{im:List (Addr×Obj)}(pz:Value→Bool)(dd:Value→PyData):
  ∀{vs ys:List MV} {ws us:List Value},VRs as ks im vs ws→jW x elt ifs vs=some ys→(∀v w',v ∈ vs→VR as ks im v w'→∀i,UD x ifs v=some i→pz w'= !eqB i 0)→
   (∀v w' k,v ∈ vs→VR as ks im v w'→AM x v elt=some k→dd w'=.int k)→CarriedAll us ((ws.filter pz).map dd)→VRs as ks im ys us
 |[],ys,ws,us,h,e,_,_,hC=>by
  obtain rfl:=h.nilI;obtain rfl:=oiZ e;cases hC;exact .nil
 |v::vs,ys,ws,us,h,e,hp,hd,hC=>by
  obtain⟨w',ws,rfl,h,hs⟩:=h.consI;obtain⟨i,hi,e⟩:=bV e;have hpi:=hp v w' (.head _) h i hi
  have go:=fun {ys us}=>gg (x:=x) (elt:=elt) (ifs:=ifs) pz dd (ys:=ys) (us:=us) hs
  cases h0:eqB i 0 with
  |true=>
   rw [h0]at hpi e
   rw [List.filter_cons_of_neg (by rw [hpi];decide)]at hC
   exact go e (fun v w' hv=>hp v w' (.tail _ hv)) (fun v w' k hv=>hd v w' k (.tail _ hv)) hC
  |false=>
   rw [h0]at hpi e
   rw [List.filter_cons_of_pos (by rw [hpi];rfl)]at hC
   obtain⟨k,hk,e⟩:=bV e;obtain⟨ys',hys,e⟩:=bV e;obtain rfl:=oiZ e;rw [List.map_cons,hd v w' k (.head _) h hk]at hC
   cases hC with
   |cons c cs=>
    cases c
    exact .cons (.int _ _) (go hys (fun v w' hv=>hp v w' (.tail _ hv)) (fun v w' k hv=>hd v w' k (.tail _ hv)) cs)
end
def kJ(ev:Cx→Loc→MS→xpZ→MR):Prop:=∀cx zl st y p v st',ev cx zl st (.Name y p)=some (v,st')→st'=st∧((bC cx y=some true∧c7 y zl=some v)∨(y,v) ∈ gtab)
def GU(h:Heap)(ifs:List xpZ)(w':Value):Bool:=match ifs with
 |[]=>true
 |[c]=>match fld h w' (wC c)with
  |some k=> !eqB k 0
  |none=>false
 |_=>false
theorem gK{x:Str}{elt:xpZ}{ifs:List xpZ}:∀{vs ys:List MV},jW x elt ifs vs=some ys→∀v ∈ vs,∃i,UD x ifs v=some i∧(eqB i 0=false→∃k,AM x v elt=some k)
 |[],_,_=>fun _ h=>nomatch h
 |u::vs,ys,e=>by
  obtain⟨i,hi,e⟩:=bV e
  cases h0:eqB i 0 with
  |true=>
   rw [h0]at e
   exact fcZ ⟨⟨i,hi,fun h=>Fz (h0.symm.trans h)⟩,gK e⟩
  |false=>
   rw [h0]at e;obtain⟨k,hk,e⟩:=bV e;obtain⟨ys',hys,_⟩:=bV e
   exact fcZ ⟨⟨i,hi,fun _=>⟨k,hk⟩⟩,gK hys⟩
theorem VRs.mem{as:List Addr}{ks:List (Bool×Int)}{im:List (Addr×Obj)}{w:Value}:∀{vs:List MV} {ws:List Value},VRs as ks im vs ws→w ∈ ws→∃v ∈ vs,VR as ks im v w
 |[],ws,h,hm=>nomatch h.nilI ▸hm
 |v::vs,ws,h,hm=>by
  obtain⟨x,xs,rfl,h,hs⟩:=h.consI;rcases mcZ hm with rfl|hm
  ·exact⟨_,.head _,h⟩
  ·obtain⟨v,h1,h2⟩:=VRs.mem hs hm;exact⟨v,.tail _ h1,h2⟩
section
variable{l:LS}{st:MS}{s:Shared}{E:Value→Shared→Prop}
theorem oP(n:Now w F.h₀ F.L m X l st s){x:Str}{v:MV}{w':Value}{e:xpZ}(hv:l.VR v w'):Al (AM x v e) fun k=>fld s.heap w' (wC e)=some k∧iS e=true:=by
 refine .ob fun p hp=>.ob fun y hy=>.ob fun i hi=>.gd fun hs=>.ob fun us hus=>.ob fun u hg k' hk'=>?_
 obtain⟨e1,e2⟩:=p;obtain⟨pp,rfl⟩:=AO hp;obtain⟨j,pc,rfl⟩:=nk hi;obtain rfl:=di hus;obtain rfl:=bd hk';refine⟨?_,rfl⟩;obtain⟨a,us,rfl,_,⟨o,ho,hc,kk,hdat⟩,hR',_⟩:=n.tupl hv;rw [aJ]at hg;obtain⟨u,hu,hvu⟩:=hR'.get hg;obtain⟨tt,rfl⟩:=hvu.intI;unfold fld;simp only [ho,hdat,List.getElem?_toArray]
 rw [show wC _=i from rfl,hu]
theorem rJ(S:Sit w F){x:Str}{pos:Pos}{v:MV}(hv:zl.lookup x=some v)(hi:bC F.scope.names x=some true)(n:Now w F.h₀ F.L m X l st s)(hl:LocR F X l zl m)
  (h:∀v',l.VR v v'→Q v' s):wpAny (M w) F.A (eval (.Name x pos) F.env) Q E s:=by
 obtain⟨v',h1,h2⟩:=hl x v hv hi;have g:=h v' h1;rcases h2 with⟨hx,hm⟩|⟨hx|hx,c,o,hc,hX,ho⟩
 ·exact nameX_L n.F hm g S.kind hx (S.nodbg hx)
 ·exact nameX_C n.N hc (mrZ _ (mrZ _ hX)) ho g S.kind hx (S.nodbg hx)
 ·exact nameX_F n.N hc (mrZ _ (mrZ _ hX)) ho g S.kind hx (S.nodbg hx) (S.nocd hx)
theorem oQ{P:Params}{y:Str}{r:Nat}(h:(y,MV.ref r) ∈ gtab):False:=by
 have z:GH (Kf P) y (.ref r)=true:=ykZ.mp (pN P) _ h;exact cM z
theorem rK(S:Sit w F)(hN:kJ ih.ev){elt:xpZ}{x y:Str}{px py pos:Pos}{ifs:List xpZ}{sc:Scope}{r:Nat}{vs ys:List MV}(e1:ih.ev F.scope.names zl st (.Name y py)=some (.ref r,st'))(h1:aH st'.H r=some (.list vs))
  (ho:iQ F.scope.names zl x sc.names=true) (hk:sc.kind=.function) (hs:jW x elt ifs vs=some ys) (n:Now w F.h₀ F.L m X l st s) (hl:LocR F X l zl m) (h:Goes w F m X l s (.ref st'.H.length) (psh st' (.list ys)) Q):
  wpAny (M w) F.A (eval (.ListComp elt [⟨.Name x px,.Name y py,ifs,0⟩] sc pos) F.env) Q E s:=by
 have C:=gJ ho;obtain⟨cl,hcl⟩:=C.clos hl;obtain⟨rfl,hloc⟩:=hN _ _ _ _ _ _ _ e1;rcases hloc with⟨hi,hv⟩|hg
 ·rw [cP]at hv
  refine ListComp_DCn (K:=V8)
   (pz:=GU s.heap ifs)
   (d:=fun w'=>.int ((fld s.heap w' (wC elt)).getD 0)) (h₀:=F.h₀) (L:=F.L) (m:=m) S.hd hcl C.nc hk C.nl C.hx (rJ S hv hi n hl fun v' r1=>?_) (fun _=>rfl)
  obtain⟨ax,ws,ep,rfl,_,hT,hR,hb⟩:=n.lst r1 h1;have zr:=hR.length;have hmem:=gK hs
  have hkk:∀C',(compEnvC sc cl C' F.env).scope.kind=.function:=fun _=>hk
  have hxx:∀C',(compEnvC sc cl C' F.env).kindOf x=some .local:=fun _=>lookup_relabel_local C.hx
  have hz:∀v w',v ∈ vs→l.VR v w'→∀i,UD x ifs v=some i→
    GU s.heap ifs w'= !eqB i 0:=fun v w' hvm hvr i hi=>by
   match ifs,hi with
   |[],hi=>exact oiZ hi ▸rfl
   |[c],hi=>
    have e:fld s.heap w' (wC c)=some i:=(oP n hvr i hi).1;simp only [GU,e]
  refine⟨l.RL++(l.im++X),ax,ws,ws,rfl,hT,A0 ws,by rw [sizeLine_eq];lia,n.F,n.N,fun C' a v s₂ m₂ E' _ ha hav hn hm hh=>?_,fun C' a v s₂ m₂ E' _ ha hav hp hn hm hh=>?_,fun D us h' tk F' N' h0 hL hP hC=>?_⟩
  ·have hav:a=v:=hav;subst hav;obtain⟨v0,hv0,hvr⟩:=hR.mem ha;obtain⟨i,hi,_⟩:=hmem v0 hv0;have z:=hz v0 a hv0 hvr i hi
   match ifs,hi,z with
   |[],hi,z=>rw [List.forIn_nil];exact wpAny_pure ⟨rfl,_,_,rfl,fun _ _ e=>e⟩
   |[c],hi,z=>
    rw [List.forIn_cons];have hi:AM x v0 c=some i:=hi;have hpl:iS c=true:=(oP n hvr i hi).2
    have tst:∀t s₃,Keeps s₂ s₃→wpAny (M w) F.A (truthy (.int i t)) (fun b s₃=>b=GU s.heap [c] a∧Keeps s₂ s₃) E' s₃:=fun t s₃ hK=>P.truthy_int ⟨by
     rw [z,kD];rfl,hK⟩
    have g:=ta (env:=compEnvC sc cl C' F.env) (A:=F.A) (s₂:=s₂) (E:=E') (Q:=fun v s₁=>wpAny (M w) F.A (truthy v) (fun b s₃=>b=GU s.heap [c] a∧Keeps s₂ s₃) E' s₁) n hvr hi (hkk C') (hxx C') C.hd hn hm hh
    have it:=isTrue_plain (env:=compEnvC sc cl C' F.env) (g.2 tst) (dE hpl _ _);rw [if_pos rfl]
    exact wpAny_bind (wpAny_bind (wpAny_mono it (fun b s₃ h=>wpAny_pure (wpAny_pure h)) fun _ _ e=>e))
  ·have hav:a=v:=hav;subst hav;obtain⟨v0,hv0,hvr⟩:=hR.mem ha;obtain⟨i,hi,hk2⟩:=hmem v0 hv0;have z:=hz v0 a hv0 hvr i hi
   have hi0:eqB i 0=false:=by
    have hp':GU s.heap ifs a=true:=hp;rw [z]at hp'
    cases q:eqB i 0 with
    |false=>rfl
    |true=>rw [q]at hp';exact cM hp'
   obtain⟨k,hk3⟩:=hk2 hi0
   have g:=ta (env:=compEnvC sc cl C' F.env) (A:=F.A) (s₂:=s₂) (E:=E') (Q:=fun y s₃=>Carried y (.int ((fld s.heap a (wC elt)).getD 0))∧Keeps s₂ s₃) n hvr hk3 (hkk C') (hxx C') C.hd hn hm hh
   refine g.2 fun t s₃ hK=>⟨?_,hK⟩
   rw [g.1];exact .int _ _
  ·obtain⟨⟨c',hD⟩,hne⟩:=hP
   have NN:News F.h₀ F.L h' ((D,listOf us.toArray c')::(l.RL++(l.im++X))):=fun p hp=>by
    rcases mcZ hp with rfl|hp
    ·exact⟨hD,NewPlain.ne_locals ⟨⟨c',hD⟩,hne⟩ F',h0⟩
    ·exact N' p hp
   have hrel:l.VRs ys us:=gg _ _ hR hs hz (fun v w' k hv hvr hk=>by
    have e:fld s.heap w' (wC elt)=some k:=(oP n hvr k hk).1
    simp only [e,Option.getD_some]) hC
   have hyl:ys.length≤1048576:=by
    have a1:=hrel.length;have a2:=CarriedAll.int hC;have a3:(ws.filter (GU s.heap ifs)).length≤ws.length:=List.length_filter_le _ ws;rw [List.length_map]at a2
    lia
   have nn:=n.addN (t:=tk) (mo:=.list ys) S F' NN hne (.list (hrel.mono (paZ _ _) prZ fun _ h=>h) hyl) rfl
   exact h _ _ _ nn (Ext.add _ _ _) Same.mk' (n.newRef _ _)
 ·exact absurd hg fun hg=>oQ (P:=w.params) hg
end
theorem tb{a:Addr}{o o':Obj}:∀{pre post:List (Addr×Obj)},(∀p ∈ pre,p.1≠a)→(∀p ∈ post,p.1≠a)→Upd a o o' (pre++(a,o)::post) (pre++(a,o')::post)
 |[],_,_,h=>.head h
 |p::r,_,h1,h2=>.tail (h1 p (.head _)) (tb (fun q hq=>h1 q (.tail _ hq)) h2)
theorem gh{α:Type}{x y:Str}{v:α}:∀{zl:List (Str×α)},(c8 x v zl).lookup y=if y=x then some v else zl.lookup y
 |[]=>by
  unfold c8;rw [ylZ]
  by_cases h:y=x
  ·subst h;simp
  ·have:(y==x)=false:=bfZ h;rw [if_neg h];simp only [this,List.lookup_nil]
 |(z,u)::r=>by
  unfold c8
  cases q:sq z x with
  |true=>
   obtain rfl:=sq_iff.mp q;rw [ylZ,ylZ]
   by_cases h:y=z
   ·subst h;simp
   ·rw [if_neg h,show (y==z)=false from beq_eq_false_iff_ne.mpr h]
  |false=>
   have q:z≠x:=sq_false.mp q;rw [ylZ,ylZ]
   by_cases h:y=z
   ·subst h;simp [q]
   ·rw [show (y==z)=false from beq_eq_false_iff_ne.mpr h]
    exact gh
theorem tc{P:Params}{as:List Addr}{ks:List (Bool×Int)}{im:List (Addr×Obj)}{x:Str}{v:MV}{v':Value}{t:Tok}(hv:VR as ks im v v'){es:List (Str×MV)}{ds:List DictEntry}(h:Ents P as ks im es ds):Ents P as ks im (c8 x v es) (putL x (PyData.keyHash P x) (.str x t) v' ds):=by
 induction h with
 |nil=>exact .cons hv .nil
 |cons h hs ih=>
  unfold c8 putL;simp only [gF];rename_i y _ _ _ _ _
  cases q:sq y x with
  |true=>exact .cons hv hs
  |false=>exact .cons h ih
theorem m0(x:Str)(hsh:Int)(k v:Value):∀ds:List DictEntry,(putL x hsh k v ds).length≤ds.length+1
 |[]=>by simp [putL]
 |e::r=>by
  unfold putL;split
  ·simp
  ·have:=m0 x hsh k v r;simp;lia
theorem m9{α:Type}(x:Str)(v:α):∀l:List (Str×α),(c8 x v l).length≤l.length+1
 |[]=>by simp [c8]
 |e::r=>by
  unfold c8;split
  ·simp
  ·have:=m9 x v r;simp;lia
theorem mc{α:Type}{x:Str}{v:α}{p:Str×α}:∀{l:List (Str×α)},p ∈ c8 x v l→p.1=x∨p ∈ l
 |[],h=>by
  unfold c8 at h;cases msZ h;exact .inl rfl
 |e::r,h=>by
  unfold c8 at h;split at h
  ·rename_i q
   cases h with
   |head=>exact .inl (sq_iff.mp q)
   |tail _ h=>exact .inr (.tail _ h)
  ·cases h with
   |head=>exact .inr (.head _)
   |tail _ h=>exact (mc h).imp id (.tail _)
theorem Ents.len{P:Params}{as:List Addr}{ks:List (Bool×Int)}{im:List (Addr×Obj)}{es:List (Str×MV)}{ds:List DictEntry}(h:Ents P as ks im es ds):es.length=ds.length:=by
 induction h with
 |nil=>rfl
 |cons _ _ ih=>exact congrArg (· +1) ih
section
variable{l:LS}{st:MS}{s:Shared}{E:Value→Shared→Prop}
theorem Now.putN(n:Now w F.h₀ F.L m X l st s){i:Nat}{a:Addr}{o₀ o:Obj}{h':Heap}{t:Nat}{mo:MO}(h:l.RL[i]? =some (a,o₀))(F':Fr F.h₀ F.L h' m)(N':News F.h₀ F.L h' ((l.put i a o).RL++(l.im++X)))(hO:OR w.params l.as l.ks l.im mo o){mo₁:MO}(hv:aH st.H i=some mo₁)(hp₁:mo₁.plain=true:=by rfl)(hp:mo.plain=true:=by rfl):
  Now w F.h₀ F.L m X (l.put i a o) (wr st i mo) {s with heap:=h',toks:=t}:=by
 have hm:(a,o₀) ∈ l.RL:=moZ h;have hka:(l.put i a o).as=l.as:=l.as_put o h
 refine⟨F',N',⟨?_,?_,n.H.imt,n.H.kn,n.H.kb,fun j hj=>?_⟩,fun p hp q hq=>?_,fun q hq=>?_,fun j ob h1 h2=>?_,n.oq⟩
 ·show ORs w.params (l.put i a o).as l.ks l.im (bO mo st.H i) (l.RL.set i (a,o))
  rw [hka,aj];exact n.H.obj.set hO i
 ·rw [hka];exact n.H.nd
 ·rw [aJ]at hv;have hj':(bO mo st.H i)[j]? =some .ktb:=hj;rw [aj]at hj'
  have hji:j≠i:=fun e=>by
   subst e;rw [List.getElem?_set]at hj';simp only [if_true]at hj';split at hj'
   ·cases hj';cases hp
   ·cases hj'
  rw [ypZ (Ne.symm hji)]at hj';obtain⟨T,U⟩:=n.H.tab j hj'
  have hne:∀k,1≤k→k≤6→j+k≠i:=fun k h1 h2 e=>by
   have:=U k h1 h2;rw [e,hv]at this;cases this;cases hp₁
  refine⟨?_,fun k h1 h2=>?_⟩
  ·rw [hka]
   refine T.mono prZ (fun _ h=>h) ?_
   show ((l.RL.set i (a,o)).drop j).take 7=_
   by_cases hij:i < j
   ·rw [List.drop_set_of_lt hij]
   ·have hle:7≤i - j:=by
     refine Nat.le_of_not_lt fun q=>?_
     rcases Nat.eq_zero_or_pos (i - j)with z|z
     ·exact hji (by lia)
     ·exact hne (i - j) z (by lia) (by lia)
    rw [List.drop_set,if_neg hij];rw [List.take_set_of_le hle]
  ·show (bO mo st.H i)[j+k]? =_
   rw [aj,ypZ (Ne.symm (hne k h1 h2))];exact U k h1 h2
 ·have hq':q ∈ l.RL.set i (a,o):=hq;rcases List.mem_or_eq_of_mem_set hq' with h1|h1
  ·exact n.ap p hp q h1
  ·rw [h1];exact n.ap p hp (a,o₀) hm
 ·have hq':q ∈ l.RL.set i (a,o):=hq;rcases List.mem_or_eq_of_mem_set hq' with h1|h1
  ·exact n.sm q h1
  ·rw [h1];exact n.sm (a,o₀) hm
 ·have h1':j < mn i st.bas:=h1;have a1:=iB i st.bas;have a2:=d6 i st.bas
  obtain⟨g1,g2⟩:=n.bq j ob (by lia) h2
  refine⟨?_,?_⟩
  ·show (bO mo st.H i)[j]? =_
   rw [aj,ypZ (by lia)];exact g1
  ·show Fits _ (l.RL.set i (a,o))[j]?
   rw [ypZ (by lia)];exact g2
theorem Now.upd(n:Now w F.h₀ F.L m X l st s){i:Nat}{a:Addr}{o:Obj}{mo:MO}(h:l.RL[i]? =some (a,o))(o':Obj)(hO:OR w.params l.as l.ks l.im mo o):Upd a o o' (l.RL++(l.im++X)) ((l.put i a o').RL++(l.im++X)):=by
 have hm:(a,o) ∈ l.RL:=moZ h;obtain⟨hi,he⟩:=ybZ.mp h
 have ei:l.as[i]? =some a:=by show (l.RL.map (·.1))[i]? =_;rw [ydZ,h];rfl
 have e1:l.RL=l.RL.take i++(a,o)::l.RL.drop (i+1):=by
  have:=List.set_eq_take_append_cons_drop (l:=l.RL) (i:=i) (a:=(a,o));rw [if_pos hi]at this;rw [←this]
  refine List.ext_getElem? fun j=>?_
  rw [List.getElem?_set];split
  ·rename_i q;subst q;exact h
  ·rfl
 have e2:(l.put i a o').RL=l.RL.take i++(a,o')::l.RL.drop (i+1):=by
  show l.RL.set i (a,o')=_
  rw [List.set_eq_take_append_cons_drop,if_pos hi]
 have ne:∀j p,l.RL[j]? =some p→j≠i→p.1≠a:=fun j p hj hji e=>by
  refine hji (bp n.H.nd (a:=a) ?_ ei)
  show (l.RL.map (·.1))[j]? =_
  rw [ydZ,hj,←e];rfl
 rw [e2]
 conv=>arg 4;rw [e1]
 rw [List.append_assoc,List.append_assoc,List.cons_append,List.cons_append]
 refine tb (fun p hp=>?_) fun p hp=>?_
 ·obtain⟨j,hj⟩:=List.mem_iff_getElem?.mp hp
  by_cases hlt:j < i
  ·rw [ycZ hlt]at hj
   exact ne j p hj (by lia)
  ·rw [yjZ (by simp;lia)]at hj;cases hj
 ·rcases maZ hp with hp|hp
  ·obtain⟨j,hj⟩:=List.mem_iff_getElem?.mp hp;rw [List.getElem?_drop]at hj
   exact ne _ p hj (by lia)
  ·rcases maZ hp with hp|hp
   ·intro e;obtain⟨ws,hw⟩:=n.H.imt p hp;have g1:=(n.N p (mrZ _ (mlZ _ hp))).1;have g2:=(n.N _ (mlZ _ hm)).1;rw [e,g2]at g1;have g3:o=p.2:=oiZ g1
    exact hO.notTup w (by rw [g3,hw])
   ·exact n.ap p hp (a,o) hm
theorem td(S:Sit w F)(n:Now w F.h₀ F.L m X l st s){a v:MV}{a' v':Value}{x:Str}{Q:Unit→Shared→Prop}(ha:l.VR a a')(hv:l.VR v v')(e:wU st a x v=some st')(h:∀s' l',Now w F.h₀ F.L m X l' st' s'→Ext l l'→Same s s'→Q () s'):
  wpAny (M w) F.A (setAttr a' x v') Q E s:=by
 refine (?_:Al (wU st a x v) fun st'=>(∀s' l',Now w F.h₀ F.L m X l' st' s'→Ext l l'→Same s s'→Q () s')→wpAny (M w) F.A (setAttr a' x v') Q E s) st' e h
 clear e h
 refine .ob fun r hr=>.ob fun ob h1=>.inA fun c dd es ho h2=>.ob fun u hf=>.gd fun zr=>.so fun h=>?_
 obtain rfl:=cf hr;subst ho;obtain⟨ax,adx,ds,ep,rfl,_,hadx,I,hE,hfl,_⟩:=n.inst ha h1 h2
 obtain⟨z0,z⟩:=pP (P:=w.params) (c:=c) (x:=x) (by rw [hf];rfl)
 have za:=abZ z;have zb:=abZ za.1;have zc:=abZ zb.1;have ya:=abZ (abZ z0).1;have y2:=of_decide_eq_true (abZ ya.1).2;have y3:=ya.2;have z2:=zc.2;have z4:=of_decide_eq_true za.2;have h2':=h2;rw [aJ]at h2';obtain⟨p,hp,ho⟩:=n.H.obj.get h2';obtain⟨pa,po⟩:=p;obtain rfl:=oiZ ((LS.as_get hp).symm.trans hadx)
 have hpo:po=dictOf ds ep:=by
  have g1:=(n.N _ (mlZ _ (moZ hp))).1;have g2:=I.4;exact oiZ (g1.symm.trans g2)
 subst hpo;have hl900:es.length < 900:=lbZ zr;have hdl:=hE.len
 refine set_dict n.F S.K n.N I rfl y2 y3 z4 z2 (by
  cases q:c7 x es with
  |none=>rw [hE.none q];rfl
  |some v0=>obtain⟨u,hu,_⟩:=hE.get q;rw [hu];rfl) rfl (n.upd hp _ (mo:=.idict c es) (.idict hE hfl (by lia))) (leZ (m0 _ _ _ _ ds) (by lia)) fun h' F' N'=>?_
 exact h _ _ (n.putN (t:=s.toks+2) (mo:=.idict c (c8 x v es)) hp F' N' (.idict (tc hv hE) (fun p hp=>by
  rcases mc hp with e|e
  ·rw [e,hf];rfl
  ·exact hfl p e) (by have:=m9 x v es;lia)) h2) (Ext.put _ hp) Same.mk'
end
section
variable{w:World}{E:Value→Shared→Prop}{s:Shared}
theorem md{l:Addr}{items:Array Value}{ep j:Nat}{k:Int}{t:Tok}{v:Value}{Q:Unit→Shared→Prop}(ho:s.heap.get? l=some (listOf items ep))(hk:k=(j:Int))(h0:0≤k)(hfit:k < 2 ^ 63)(hj:j < items.size)
  (hQ:∀h',h'.get? l=some (listOf (items.setIfInBounds j v) ep)→Heap.SameBut l s.heap h'→Q () {s with heap:=h'}):wpAny (model prog w) A (setItem (.ref l) (.int k t) v) Q E s:=by
 have hT:s.TypeIs (.ref l) "list":=⟨_,ho,rfl⟩;unfold setItem
 try with_reducible refine wpAny_holding ?_
 refine wpAny_bind (wpAny_sequenceKey hT (by decide) ?_)
 refine wpAny_bind (wpAny_callSpecial?_slot (name:=sO "__setitem__") hT slot_list_setitem
  (wpAny_call_entry slot_list_setitem hT entry_list_setitem ?_ (args_list_setitem _ _ _)))
 show wpAny _ _ (Builtin.List.listSubscript? (.int k t) >>=_) _ _ s
 refine wpAny_bind (wpAny_listSubscript_int (fitsIndex_of h0 hfit) ?_);clear hfit;subst hk;have hx:items[j]? =some items[j]:=Array.getElem?_eq_getElem hj
 show wpAny _ _ ((seqItemAt l j >>=fun r=>pure (r.map (j,·))) >>=_) _ _ s
 refine wpAny_bind (wpAny_bind (wpAny_seqItemAt ho rfl (wpAny_pure ?_)));rw [hx]
 show wpAny _ _ (setSeqItemAt l j v >>=_) _ _ s
 have e:Obj.mapSeq (·.setIfInBounds j v) (listOf items ep)=listOf (items.setIfInBounds j v) ep:=by
  show (⟨_,_,.seq _ (if (items.setIfInBounds j v).size==items.size then ep else ep+1),_⟩:Obj)=_
  simp
 have hfin:(s.heap.update l (Obj.mapSeq (·.setIfInBounds j v))).get? l=some (listOf (items.setIfInBounds j v) ep):=by
  rw [Heap.get?_update_self _ ho (by rw [e];rfl),e]
 refine wpAny_bind (wpAny_setSeqItemAt ho rfl ?_)
 first
  |exact wpAny_bind (wpAny_pure (wpAny_pure ⟨.none,rfl,wpAny_pure (hQ _ hfin (Heap.SameBut.update ..))⟩))
  |exact wpAny_pure ⟨.none,rfl,wpAny_pure (hQ _ hfin (Heap.SameBut.update ..))⟩
end
theorem oR{w w':World}{o:Obj}{zw:List (Int×Value)}(h:o.IsDictOf (intKind pg w) zw):o.IsDictOf (intKind pg w') zw:=by
 obtain⟨ds,ep,a,b,c,p,e⟩:=h;refine⟨ds,ep,a,b,c,?_,e⟩;clear b c e;generalize ds.toList=dl at p
 induction p with
 |nil=>exact .nil
 |cons h1 h2 _ ih=>exact .cons h1 h2 ih
section
theorem pf{k v:MV}{p:MV×MV}{r es':List (MV×MV)}(e:iP k v (p::r)=some es'):bP p.1 k=some true∧es'=(p.1,v)::r∨bP p.1 k=some false∧∃y,iP k v r=some y∧es'=p::y:=by
 obtain⟨b,h,e⟩:=bV e
 cases b with
 |true=>exact .inl ⟨h,(oiZ e).symm⟩
 |false=>
  obtain⟨y,h1,h2⟩:=ysZ.mp e;exact .inr ⟨h,y,h1,h2.symm⟩
theorem xH(hn:KN ks)(hb:KB ks){k v:MV}{i:Int}{v':Value}(hk:bn ks k=some i)(hv:VR as ks im v v'){es:List (MV×MV)}{zw:List (Int×Value)}(h:KVs as ks im es zw):∀{es':List (MV×MV)},(zw.map (·.1)).Nodup→iP k v es=some es'→
  ∃kvs',KVs as ks im es' kvs'∧((zw.any fun kv=>kv.1=i)=true→kvs'=zw.map fun kv=>if kv.1=i then (kv.1,v') else kv)∧((zw.any fun kv=>kv.1=i)=false→kvs'=zw++[(i,v')]):=by
 induction h with
 |nil=>
  intro _ _ e;obtain rfl:=oiZ e
  exact⟨[(i,v')],.cons hk hv .nil,fun h=>by simp at h,fun _=>rfl⟩
 |cons hk0 hv0 hs ih=>
  intro es' hnd e;rename_i k0 _ i0 x0 es zw;obtain⟨nd1,nd2⟩:=List.nodup_cons.mp hnd;rcases pf e with⟨q,rfl⟩|⟨q,es2,h1,rfl⟩
  ·obtain rfl:=of_decide_eq_true (ey hn hb hk0 hk q).symm
   refine⟨(i0,v')::zw,.cons hk0 hv hs,fun _=>?_,fun h=>by simp at h⟩
   rw [List.map_cons,if_pos rfl]
   congr 1
   refine (List.map_id _).symm.trans (List.map_congr_left fun kv hkv=>?_)
   rw [if_neg fun e=>nd1 (List.mem_map.mpr ⟨kv,hkv,e⟩)];rfl
  ·have hi:i0≠i:=of_decide_eq_false (ey hn hb hk0 hk q).symm;obtain⟨kvs2,g1,g2,g3⟩:=ih nd2 h1
   refine⟨(i0,x0)::kvs2,.cons hk0 hv0 g1,fun h=>?_,fun h=>?_⟩
   ·rw [List.any_cons,decide_eq_false hi,Bool.false_or]at h;rw [g2 h,List.map_cons,if_neg hi]
   ·rw [List.any_cons,decide_eq_false hi,Bool.false_or]at h;rw [g3 h];rfl
theorem xI(hn:KN ks)(hb:KB ks){k v:MV}{i:List RK}{ka:Addr}{v':Value}(hk:ee ks k=some i)(hka:VR as ks im k (.ref ka))(hv:VR as ks im v v'){es:List (MV×MV)}{xs:List (List RK×Addr×Value)}(h:HVs as ks im es xs):∀{es':List (MV×MV)},(xs.map (·.1)).Nodup→iP k v es=some es'→
  HVs as ks im es' (storedH xs i ka v'):=by
 induction h with
 |nil=>
  intro _ _ e;obtain rfl:=oiZ e;exact .cons hk hka hv .nil
 |cons hk0 ha0 hv0 hs ih=>
  intro es' hnd e;rename_i k0 _ i0 a0 x0 es xs;obtain⟨nd1,nd2⟩:=List.nodup_cons.mp hnd;rcases pf e with⟨q,rfl⟩|⟨q,es2,h1,rfl⟩
  ·obtain rfl:=of_decide_eq_true (pQ hn hb hk0 hk q).symm
   have z:(atKey ((i0,a0,x0)::xs) i0).isSome=true:=by simp [atKey]
   rw [storedH,if_pos z,List.map_cons]
   have hrest:xs.map (putAt i0 v')=xs:=by
    refine (List.map_congr_left fun kv hkv=>?_).trans (List.map_id _)
    unfold putAt
    rw [if_neg fun e=>nd1 (List.mem_map.mpr ⟨kv,hkv,e⟩)];rfl
   have hh:putAt i0 v' (i0,a0,x0)=(i0,a0,v'):=by unfold putAt;rw [if_pos rfl]
   rw [hrest,hh];exact .cons hk0 ha0 hv hs
  ·have hi:i0≠i:=of_decide_eq_false (pQ hn hb hk0 hk q).symm
   have e:storedH ((i0,a0,x0)::xs) i ka v'=(i0,a0,x0)::storedH xs i ka v':=by
    have e1:(atKey ((i0,a0,x0)::xs) i).isSome=(atKey xs i).isSome:=by simp [atKey,hi]
    unfold storedH;rw [e1];split
    ·rw [List.map_cons]
     congr 1
     unfold putAt;rw [if_neg hi]
    ·rfl
   rw [e];exact .cons hk0 ha0 hv0 (ih nd2 h1)
theorem KVs.len{es:List (MV×MV)}{zw:List (Int×Value)}(h:KVs as ks im es zw):zw.length=es.length:=by
 induction h with
 |nil=>rfl
 |cons _ _ _ ih=>exact congrArg (· +1) ih
theorem HVs.len{es:List (MV×MV)}{zw:List (List RK×Addr×Value)}(h:HVs as ks im es zw):zw.length=es.length:=by
 induction h with
 |nil=>rfl
 |cons _ _ _ _ ih=>exact congrArg (· +1) ih
end
theorem me{k v:MV}:∀{es es':List (MV×MV)},iP k v es=some es'→es'.length≤es.length+1
 |[],_,e=>oiZ e ▸lrZ _
 |p::r,es',e=>by
  rcases pf e with⟨_,rfl⟩|⟨_,y,h,rfl⟩
  ·exact Nat.le_succ _
  ·exact Nat.succ_le_succ (me h)
theorem mf{k v:MV}:∀{es es':List (MV×MV)},iP k v es=some es'→∃o,pB k es=some o
 |[],_,_=>⟨_,rfl⟩
 |p::r,es',e=>by
  unfold pB;rcases pf e with⟨q,_⟩|⟨q,y,h,_⟩
  ·rw [q];exact⟨_,rfl⟩
  ·rw [q];exact mf h
section
variable{l:LS}{st:MS}{s:Shared}{E:Value→Shared→Prop}
theorem tf(S:Sit w F)(hA:F.A.units+10 < cLine)(n:Now w F.h₀ F.L m X l st s){a k v:MV}{a' k' v':Value}{Q:Unit→Shared→Prop}(ha:l.VR a a')(hk:l.VR k k')(hv:l.VR v v')(e:lx st a k v=some st')(h:∀s' l',Now w F.h₀ F.L m X l' st' s'→Ext l l'→Same s s'→Q () s'):
  wpAny (M w) F.A (setItem a' k' v') Q E s:=by
 refine (?_:Al (lx st a k v) fun st'=>(∀s' l',Now w F.h₀ F.L m X l' st' s'→Ext l l'→Same s s'→Q () s')→wpAny (M w) F.A (setItem a' k' v') Q E s) st' e h
 clear e h
 refine .ob fun r hr=>.ob fun o h1=>?_
 obtain rfl:=cf hr
 cases o with
 |list vs=>
  refine .ob fun j hjk=>.gd fun hj=>.so fun h=>?_
  obtain⟨u,rfl⟩:=VR.intI (fV hjk ▸hk);obtain⟨ax,ws,ep,rfl,hg,hT,hR,hb⟩:=n.lst ha h1;have hm:=(n.N _ (mlZ _ (moZ hg))).1;have zr:=hR.length;have hjl:j < vs.length:=lbZ hj
  refine md (j:=j) hm rfl (by show (0:Int)≤(j:Int);lia) (by show (j:Int) < 2 ^ 63;lia) (by simp only [ymZ];lia) fun h' ho hs=>?_
  have e1:ws.toArray.setIfInBounds j v'=(ws.set j v').toArray:=by simp
  rw [e1]at ho
  exact h _ _ (n.put (t:=s.toks) (mo:=.list (bO v vs j)) (o:=listOf (ws.set j v').toArray ep) hg hs ho (by rw [aj];exact .list (hR.set hv j) (by simp;lia)) h1 rfl rfl) (Ext.put _ hg) Same.mk'
 |dict es=>
  refine .ok fun hl=>.mp fun es' e1 h=>?_
  obtain⟨q,e1⟩:=fU e1;have hlen':=me e1;obtain⟨o,hdl⟩:=mf e1;rcases n.key q hk with⟨i,t,k1,rfl⟩|⟨rr,ka,k1,rfl,k2⟩
  ·obtain⟨ax,ob,zw,rfl,hg,hs,hD,hK,_⟩:=n.dictI ha h1 k1 hdl
   have hnd:(zw.map (·.1)).Nodup:=by obtain⟨_,_,_,_,_,_,_,_,hnd⟩:=hD;exact hnd
   obtain⟨kvs',g1,g2,g3⟩:=xH n.H.kn n.H.kb k1 hv hK hnd e1
   have est:stored zw i v'=kvs':=by
    unfold stored
    cases hc:zw.any (fun kv=>kv.1=i)with
    |true=>rw [g2 hc];rfl
    |false=>rw [g3 hc];rfl
   have hkl:=hK.len
   refine wpAny_setItem_pairs (knd:=intKind pg w.w) (k:=i) (by show Value.isInt i (.int i t)=true;exact bZ i t) hD (fun h' hD' hs'=>?_) (by rw [sizeLine_eq];lia)
   rw [est]at hD';obtain⟨ob',ho',hi'⟩:=Heap.dictOf_iff.mp hD'
   exact h _ _ (n.put (t:=s.toks+1) (mo:=.dict es') (o:=ob') hg hs' ho' (.ndict g1 (by lia) fun w'=>oR hi') h1 rfl rfl) (Ext.put _ hg) Same.mk'
  ·obtain⟨ax,ob,xs,rfl,hg,hs,hD,hK,_⟩:=n.dictR ha h1 k1 hdl
   have hnd:(xs.map (·.1)).Nodup:=by obtain⟨_,_,_,_,_,_,_,_,hnd⟩:=hD;exact hnd
   have hkl:=hK.len;have g1:=xI n.H.kn n.H.kb k1 hk hv hK hnd e1
   refine wpAny_setItem_heap (knd:=dY pg w.w) (by show F.A.units+1+1 < cLine;lia) k2 hD (fun h' hD' hs'=>?_) (by rw [sizeLine_eq];lia)
   obtain⟨ob',ds',ep',ho',hc',hd',hds',_,hnd'⟩:=hD'
   exact h _ _ (n.put (t:=s.toks+(dY pg w.w).draws rr) (mo:=.dict es') (o:=ob') hg hs' ho' (.hdict g1 (by lia) hc' hd' hds' hnd') h1 rfl rfl) (Ext.put _ hg) Same.mk'
 |_=>exact .no
end
theorem gL{cx:Cx}{x:Str}(h:dw cx x=true):cx.lookup x=some .local:=by
 exact (cP _ _).symm.trans (ly h)
theorem dF{cx:Cx}{env:Env}:∀{es:List xpZ} {xs:List Str},ni cx es=some xs→∃ps:List Pos,ps.length=xs.length∧(assignEach es env)=(xs.zip ps).map (fun p=>(false,assign (.Name p.1 p.2) env))∧∀x ∈ xs,dw cx x=true
 |[],xs,e=>by obtain rfl:=oiZ e;exact⟨[],rfl,rfl,fun _ h=>nomatch h⟩
 |t::r,xs,e=>by
  obtain⟨x,h0,e⟩:=bV e;obtain⟨hx,e2⟩:=fU e;obtain⟨p,rfl⟩:=jY h0;obtain⟨ys,h1,rfl⟩:=ysZ.mp e2;obtain⟨ps,a,b,c⟩:=dF (env:=env) h1
  refine⟨p::ps,congrArg (· +1) a,?_,fcZ ⟨hx,c⟩⟩
  show (false,assign (.Name x p) env)::assignEach _ env=_
  rw [b];rfl
section
variable{l:LS}{st:MS}{s:Shared}{E:Value→Shared→Prop}
theorem LocR.put(h:LocR F X l zl m){x:Str}{v:MV}{v':Value}(hx:F.scope.names.lookup x=some .local)(hv:l.VR v v'):LocR F X l (c8 x v zl) (fun y=>if y=x then some v' else m y):=by
 intro y u e hi;rw [gh]at e
 by_cases hy:y=x
 ·subst hy;rw [if_pos rfl]at e;cases e
  exact⟨v',hv,.inl ⟨hx,by simp⟩⟩
 ·rw [if_neg hy]at e;obtain⟨u',a,b⟩:=h y u e hi
  refine⟨u',a,b.imp (fun ⟨p,q⟩=>⟨p,?_⟩) id⟩
  simp only [if_neg hy];exact q
theorem gM(S:Sit w F){x:Str}{v:MV}{v':Value}{Q:Unit→Shared→Prop}(hx:dw F.scope.names x=true)(n:Now w F.h₀ F.L m X l st s)(hl:LocR F X l zl m)(hv:l.VR v v')
  (h:∀s' m',Now w F.h₀ F.L m' X l st s'→LocR F X l (c8 x v zl) m'→Same s s'→Q () s'):wpAny (M w) F.A (storeName F.env x v') Q E s:=
 storeX_L n.F n.N (fun h' F' N'=>h _ _ ⟨F',N',n.H,n.ap,n.sm,n.bq,n.oq⟩ (hl.put (gL hx) hv) Same.mk') S.kind (gL hx)
theorem f9(S:Sit w F):∀{xs:List Str} {ps:List Pos} {vs:List MV} {ws:List Value} {m:Str→Option Value} {s:Shared} {zl zu:Loc} {Q:Unit→Shared→Prop},ps.length=xs.length→(∀x ∈ xs,dw F.scope.names x=true)→putAll xs vs zl=some zu→l.VRs vs ws→
  Now w F.h₀ F.L m X l st s→LocR F X l zl m→(∀s' m',Now w F.h₀ F.L m' X l st s'→LocR F X l zu m'→Same s s'→Q () s')→
  wpAny (M w) F.A (assignInOrder (((xs.zip ps).map (fun p=>(false,assign (.Name p.1 p.2) F.env))).map (·.2)) ws) Q E s
 |[],ps,vs,ws,m,s,zl,zu,Q,hp,hx,e,hv,n,hl,h=>by
  cases vs with
  |nil=>
   obtain rfl:=oiZ e;obtain rfl:=hv.nilI;exact wpAny_pure (h s m n hl Same.rfl')
  |cons=>exact aF e
 |x::xs,[],vs,ws,m,s,zl,zu,Q,hp,hx,e,hv,n,hl,h=>nomatch hp
 |x::xs,p::ps,vs,ws,m,s,zl,zu,Q,hp,hx,e,hv,n,hl,h=>by
  cases vs with
  |nil=>exact aF e
  |cons v vs'=>
   obtain⟨w',ws',rfl,hv,hs⟩:=hv.consI
   show wpAny (M w) F.A (do holding ws' (assign (.Name x p) F.env w');assignInOrder (((xs.zip ps).map (fun p=>(false,assign (.Name p.1 p.2) F.env))).map (·.2)) ws') Q E s
   refine wpAny_bind (wpAny_holding (PyProof.Rows.assign_Name (gM S (hx x (.head _)) n hl hv fun s' m' n' hl' hs'=>?_)))
   exact f9 S (Nat.succ.inj hp) (fun y hy=>hx y (.tail _ hy)) e hs n' hl' fun s2 m2 n2 l2 h2=>h s2 m2 n2 l2 (hs'.trans h2)
theorem i7:∀{xs:List Str} {vs:List MV} {zl zu:Loc},putAll xs vs zl=some zu→xs.length=vs.length
 |[],[],_,_,_=>rfl
 |[],_::_,_,_,e=>aF e
 |_::_,[],_,_,e=>aF e
 |_::_,_::_,_,_,e=>congrArg (· +1) (i7 e)
theorem kK(S:Sit w F)(R:Room F.A d)(hE:bX w d ih.ev)(hN:bF ih.ev){t:xpZ}{v:MV}{v':Value}{zu:Loc}{Q:Unit→Shared→Prop}(e:bL ih F.scope.names zl st t v=some (zu,st'))(n:Now w F.h₀ F.L m X l st s)(hl:LocR F X l zl m)(hv:l.VR v v')
  (h:∀s' l' m',Now w F.h₀ F.L m' X l' st' s'→LocR F X l' zu m'→Ext l l'→Same s s'→Q () s'):wpAny (M w) F.A (assign t F.env v') Q E s:=by
 refine (?_:Al (bL ih F.scope.names zl st t v) fun p=>(∀s' l' m',Now w F.h₀ F.L m' X l' p.2 s'→LocR F X l' p.1 m'→Ext l l'→Same s s'→Q () s')→wpAny (M w) F.A (assign t F.env v') Q E s) (zu,st') e h
 clear e h
 cases t with
 |Name x p=>
  delta bL
  refine .gd fun hx=>.so fun h=>?_
  exact PyProof.Rows.assign_Name (gM S hx n hl hv fun s' m' n' hl' hs'=>h s' l m' n' hl' Ext.rfl' hs')
 |Tuple es kk p=>
  delta bL
  refine .ob fun vs hvs=>.ob fun xs hxs=>.mp fun lc h1 h=>?_
  obtain rfl:=di hvs;obtain⟨ax,ws,rfl,hi,hT,hR,hb⟩:=n.tupl hv;obtain⟨ps,a,b,c⟩:=dF (env:=F.env) hxs;have zr:=hR.length;have hxl:=i7 h1
  refine assign_Tuple_tuple S.hd hT (by rw [b];simp [a];lia) (by rw [b,List.findIdx?_eq_none_iff];intro p hp;obtain⟨q,_,rfl⟩:=List.mem_map.mp hp;rfl) fun h' hk=>?_
  rw [b]
  have n1:=n.kept (h':=h') (t:=s.toks) (fun b o e=>hk b o (Nat.ne_of_lt (Heap.lt_size e)) e)
  exact f9 S a c h1 hR n1 hl fun s2 m2 n2 l2 h2=>h s2 l m2 n2 l2 Ext.rfl' (Same.trans Same.mk' h2)
 |Attribute o x p=>
  delta bL
  refine .pb fun a zz e1=>.mp fun st2 h1 h=>?_
  rw [assign_Attribute]
  refine wpAny_bind (wpAny_holding (hE F S R m X l st s zl o a zz e1 n hl _ _ fun a' s1 l1 n1 x1 m1 r1=>?_))
  refine wpAny_bind (wpAny_standAt (wpAny_bind (wpAny_holding ?_)))
  exact td S n1 r1 (x1.vr hv) h1 fun s2 l2 n2 x2 m2=>wpAny_release (h s2 l2 m n2 ((hl.mono x1).mono x2) (x1.trans x2) (m1.trans m2))
 |Subscript o i p=>
  delta bL
  refine .pb fun a zz e1=>.pb fun k st2 e2=>.mp fun st3 h1 h=>?_
  rw [assign_Subscript]
  refine wpAny_bind (wpAny_holding (hE F S R m X l st s zl o a zz e1 n hl _ _ fun a' s1 l1 n1 x1 m1 r1=>?_))
  refine wpAny_bind (wpAny_holding (hE F S R m X l1 zz s1 zl i k st2 e2 n1 (hl.mono x1) _ _ fun k' s2 l2 n2 x2 m2 r2=>?_))
  refine wpAny_bind (wpAny_standAt (wpAny_bind (wpAny_holding ?_)))
  exact tf S (by have:=R.u;lia) n2 (x2.vr r1) r2 ((x1.trans x2).vr hv) h1 fun s3 l3 n3 x3 m3=>wpAny_release (h s3 l3 m n3 (((hl.mono x1).mono x2).mono x3) ((x1.trans x2).trans x3) ((m1.trans m2).trans m3))
 |_=>exact .no
end
theorem GV(P:Params):nsIn (Kf P) mainGlobals (sO "len")=some none:=by kernel_rfl
theorem tg(P:Params):nsIn (Kf P) mainGlobals (sO "tuple")=some none:=by kernel_rfl
theorem xJ(P:Params):nsIn (Kf P) mainGlobals (sO "list")=some none:=by kernel_rfl
theorem GW(P:Params):nsIn (Kf P) mainGlobals (sO "any")=some none:=by kernel_rfl
theorem ti(P:Params):nsIn (Kf P) mainGlobals (sO "range")=some none:=by kernel_rfl
theorem GX:bootBuiltins (sO "len")=some (.builtin "len"):=by kernel_rfl
theorem tj:bootBuiltins (sO "tuple")=some (.type "tuple"):=by kernel_rfl
theorem xK:bootBuiltins (sO "list")=some (.type "list"):=by kernel_rfl
theorem GY:bootBuiltins (sO "any")=some (.builtin "any"):=by kernel_rfl
theorem tm:bootBuiltins (sO "range")=some (.type "range"):=by kernel_rfl
section
variable{l:LS}{st:MS}{s:Shared}{E:Value→Shared→Prop}
theorem kL(S:Sit w F)(R:Room F.A d)(hE:bX w d ih.ev)(hC:eC w d ih.cal)(hN:bF ih.ev){g:Str}{p pos:Pos}{args:List xpZ}{vs:List MV}{zz:MS}{v:MV}(hx:bC F.scope.names g=some false)
  (e1:bU ih.ev F.scope.names zl st args=some (vs,zz)) (e2:(match vy g wP ftab with
   |some fi=>ih.cal fi vs zz
   |none=>match vy g wQ ctab with
    |some c=>callC ih c vs zz
    |none=>lm g vs zz)=some (v,st')) (n:Now w F.h₀ F.L m X l st s) (hl:LocR F X l zl m) (h:Goes w F m X l s v st' Q):
  wpAny (M w) F.A (eval (.Call (.Name g p) args [] pos) F.env) Q E s:=by
 have hg:=cq hx;refine Call_ ?_
 have GK:∀{b:Addr},GG (Kf w.params) g mD =some b→keepIn (Kf w.params) (.ref b)=true→(∀ws s1 l1,Now w F.h₀ F.L m X l1 zz s1→Ext l l1→Same s s1→l1.VRs vs ws→wpAny (M w) F.A (call (.ref b) ws) Q E s1)→wpAny (M w) F.A (eval (.Name g p) F.env) (fun f s₁=>wpAny (M w) F.A (callWith pos f [] (backTo pos (starEach args F.env)) []) Q E s₁) E s:=fun hb hk go=>
  nameX_K n.F S.K (topRead_of S.T) (pO hb) (ez S R hE hN hk e1 n hl go) S.kind hg (S.nodbg hg)
 cases hf:vy g wP ftab with
 |some fi=>
  rw [hf]at e2;obtain⟨hF,hK⟩:=xB (P:=w.params) (gz hf);have hK:=abZ hK
  exact GK (of_decide_eq_true hK.1) hK.2 fun ws s1 l1 n1 x1 m1 r1=>jb S R hC hF e2 n1 r1 (h.step x1 m1)
 |none=>
  rw [hf]at e2
  cases hc:vy g wQ ctab with
  |some c=>
   rw [hc]at e2;have hK:Pe (Kf w.params) g c=true:=ykZ.mp (w3 w.params) _ (gz hc);have hK:=abZ hK
   exact GK (of_decide_eq_true hK.1) hK.2 fun ws s1 l1 n1 x1 m1 r1=>rG S R hC e2 n1 r1 (h.step x1 m1)
  |none=>
   rw [hc]at e2;clear GK hf hc;have e2:lm g vs zz=some (v,st'):=e2
   refine (?_:Al (lm g vs zz) fun p'=>Goes w F m X l s p'.1 p'.2 Q→wpAny (M w) F.A (eval (.Name g p) F.env) (fun f s₁=>wpAny (M w) F.A (callWith pos f [] (backTo pos (starEach args F.env)) []) Q E s₁) E s) (v,st') e2 h
   clear e2 h
   refine .a1 fun a ea=>?_
   subst ea
   refine .bl (fun hq=>?_) fun _=>.bl (fun hq=>?_) fun _=>.bl (fun hq=>?_) fun _=>.gd fun hq=>?_
   ·obtain rfl:=sq_iff.mp hq
    refine .ob fun us hu=>.so fun h=>nameX_B n.F S.K (topRead_of S.T) (GV _) GX (by decide+kernel) ?_ S.kind hg (S.nodbg hg)
    refine bT (first:=[]) S R hE hN e1 n hl fun ws s1 l1 n1 x1 m1 r1=>?_
    obtain⟨_,_,rfl,ra,rs⟩:=r1.consI;obtain rfl:=rs.nilI;exact xD n1 hu ra (h.step x1 m1)
   ·obtain rfl:=sq_iff.mp hq
    refine .ob fun us hu=>.so fun h=>nameX_B n.F S.K (topRead_of S.T) (tg _) tj (by decide+kernel) ?_ S.kind hg (S.nodbg hg)
    refine cr S R hE hN (List.cons_ne_nil _ _) e1 n hl fun ws s1 l1 n1 x1 m1 r1=>?_
    obtain⟨_,_,rfl,ra,rs⟩:=r1.consI;obtain rfl:=rs.nilI;exact mU n1 hu ra (h.step x1 m1)
   ·obtain rfl:=sq_iff.mp hq
    refine .ob fun us hu=>.so fun h=>nameX_B n.F S.K (topRead_of S.T) (xJ _) xK (by decide+kernel) ?_ S.kind hg (S.nodbg hg)
    refine cr S R hE hN (List.cons_ne_nil _ _) e1 n hl fun ws s1 l1 n1 x1 m1 r1=>?_
    obtain⟨_,_,rfl,ra,rs⟩:=r1.consI;obtain rfl:=rs.nilI;exact oI S n1 hu ra (h.step x1 m1)
   ·obtain rfl:=sq_iff.mp hq
    refine .ob fun r hr=>.ob fun us hu=>?_
    obtain rfl:=cf hr
    cases us with
    |cons _ _=>exact .no
    |nil=>
     refine .so fun h=>nameX_B n.F S.K (topRead_of S.T) (GW _) GY (by decide+kernel) ?_ S.kind hg (S.nodbg hg)
     refine bT (first:=[]) S R hE hN e1 n hl fun ws s1 l1 n1 x1 m1 r1=>?_
     obtain⟨_,_,rfl,ra,rs⟩:=r1.consI;obtain rfl:=rs.nilI
     exact xE (a:=.ref r) S n1 hu ra (h.step x1 m1) fun vs e=>nomatch e
theorem kM(S:Sit w F)(R:Room F.A d)(hE:bX w d ih.ev)(hC:eC w d ih.cal)(hN:bF ih.ev){o:xpZ}{x:Str}{p pos:Pos}{args:List xpZ}{a:MV}{k:Mt}{vs:List MV}{zz st2:MS}{v:MV}(ho:sW o p pos args.length=true)
  (e0:ih.ev F.scope.names zl st o=some (a,zz)) (ek:cp zz a x=some k) (e1:bU ih.ev F.scope.names zl zz args=some (vs,st2)) (e2:lu ih k a vs st2=some (v,st')) (n:Now w F.h₀ F.L m X l st s) (hl:LocR F X l zl m) (h:Goes w F m X l s v st' Q):
  wpAny (M w) F.A (eval (.Call (.Attribute o x p) args [] pos) F.env) Q E s:=by
 have hb:=(cO ho).1;have ho:=cO (cO ho).2;have hln:=ebZ ho.1;have h30:args.length < 30:=lbZ ho.2;have hst:=f4 hN (env:=F.env) (pos:=pos) e1
 have few:methodCallForm (args.length+0) (backTo pos (starEach args F.env)) []=true:=by
  unfold methodCallForm
  have h1:(backTo pos (starEach args F.env)).all (!·.1)=true:=by
   rw [ykZ];intro q hq;rw [List.any_eq_false]at hst
   simpa using hst q hq
  rw [h1];simp [h30]
 rw [arm_eval_Call,mM hb]
 refine wpAny_bind (hE F S R m X l st s zl o a zz e0 n hl _ _ fun a' s1 l1 n1 x1 m1 r1=>wpAny_bind (wpAny_standAt ?_))
 show wpAny (M w) F.A (methodCall o x p pos F.env a' (args.length+0) (backTo pos (starEach args F.env)) []) Q E s1
 unfold methodCall;rw [few];refine wpAny_bind (wpAny_holding ?_)
 show wpAny (M w) F.A (getMethod a' x (do return (←importBound o F.env).getD true)) _ E s1
 refine oM S n1 r1 ek ?_
 have hpos:methodCallPos true o F.env p pos=pure pos:=by
  unfold methodCallPos
  rw [if_pos (by simp [hln])]
 refine wpAny_bind (wpAny_of_eq hpos ?_)
 have fin:∀ws s2 l2,Now w F.h₀ F.L m X l2 st2 s2→Ext l1 l2→Same s1 s2→l2.VRs vs ws→wpAny (M w) F.A (call (mV k) ([a']++ws)) Q E s2:=fun ws s2 l2 n2 x2 m2 r2=>
  rH S R hC (fun f hf=>let ⟨c,hc⟩:=jc (hf ▸ek);(f6 hc).1) e2 n2 (x2.vr r1) r2 (h.step (x1.trans x2) (m1.trans m2))
 cases k with
 |fn f=>
  obtain⟨c,hc⟩:=jc ek;exact ez S R hE hN (oK (f6 (P:=w.params) hc).2).2.2.2 e1 n1 (hl.mono x1) fin
 |app=>exact bT S R hE hN e1 n1 (hl.mono x1) fin
 |pop=>exact bT S R hE hN e1 n1 (hl.mono x1) fin
 |get=>exact bT S R hE hN e1 n1 (hl.mono x1) fin
end
theorem QF{e x:xpZ}(h:PX e=some x):∃p,e=.UnaryOp .USub x p:=by
 cases e with
 |UnaryOp op y p=>
  cases op with
  |USub=>exact⟨p,oiZ h ▸rfl⟩
  |_=>exact aF h
 |_=>exact aF h
theorem QG{gs:List Comprehension}{q:Str×xpZ×List xpZ}(h:P4 gs=some q):∃p,gs=[⟨.Name q.1 p,q.2.1,q.2.2,0⟩]:=by
 rcases gs with _|⟨⟨t,it,ifs,a⟩,_|⟨_,_⟩⟩
 ·exact aF h
 ·obtain⟨x,h1,h⟩:=bV h;obtain⟨h2,h⟩:=fU h;obtain⟨p,rfl⟩:=jY h1;obtain rfl:=(PySem.W.Z.eqB_iff _ _).mp h2;obtain rfl:=oiZ h;exact⟨p,rfl⟩
 ·exact aF h
theorem V9{vs:List MV}(h:Z0 vs=true):vs.length≤1:=by
 rcases vs with _|⟨a,_|⟨b,r⟩⟩
 ·exact Nat.zero_le _
 ·exact lrZ _
 ·exact cM h
theorem QH{k:ScopeKind}(h:P0 k=true):k=.function:=by
 cases k <;>first|rfl|exact cM h
section
variable{l:LS}{st:MS}{s:Shared}{E:Value→Shared→Prop}
theorem xL(n:Now w F.h₀ F.L m X l st s){c:Const}{k:Nat}{pos:Pos}:Al (Z1 st c) fun p=>Goes w F m X l s p.1 p.2 Q→wpAny (M w) F.A (eval (.Constant c k pos) F.env) Q E s:=by
 cases c with
 |none=>exact .so fun h=>wpAny_Constant_none (h _ _ l n Ext.rfl' Same.rfl' .none)
 |bool b=>exact .so fun h=>wpAny_Constant_bool (h _ _ l n Ext.rfl' Same.rfl' (.bool b))
 |int i=>exact .so fun h=>wpAny_Constant_int (h _ _ l (n.toks _) Ext.rfl' Same.mk' (.int i _))
 |str x=>exact .so fun h=>wpAny_Constant_str (h _ _ l (n.toks _) Ext.rfl' Same.mk' (.str x _))
 |_=>exact .no
theorem xM(S:Sit w F)(n:Now w F.h₀ F.L m X l st s)(hl:LocR F X l zl m){x:Str}{pos:Pos}:Al (VC F.scope.names zl st x) fun p=>Goes w F m X l s p.1 p.2 Q→wpAny (M w) F.A (eval (.Name x pos) F.env) Q E s:=by
 refine .ob fun b hb=>?_
 cases b with
 |true=>exact .mp fun v e h=>iV S (cP x zl ▸e) hb n hl h
 |false=>exact .mp fun v e h=>gt S (cq hb) (gz e) n h
theorem tn(S:Sit w F)(n:Now w F.h₀ F.L m X l st s){a:MV}{a':Value}(r:l.VR a a'){value:xpZ}{lo hi step:Option xpZ}{p:Pos}:Al (Fu st a lo hi step) fun q=>Goes w F m X l s q.1 q.2 Q→
  wpAny (M w) F.A (eval (.Slice lo hi step p) F.env) (fun i s2=>wpAny (M w) F.A (subscriptTail value (.Slice lo hi step p) a' i) Q E s2) E s:=by
 cases hi with
 |some _=>exact .no
 |none=>
  cases lo with
  |none=>
   refine .ob fun x hx=>.ob fun y hy=>.ob fun i hi=>.gd fun h1=>.ob fun vs hvs=>.gd fun h2=>.so fun h=>?_
   obtain⟨p1,rfl⟩:=QF hy;obtain⟨j,p2,rfl⟩:=sb hi;obtain rfl:=(PySem.W.Z.eqB_iff _ _).mp h1;obtain rfl:=di hvs;subst hx;exact t9 S n r (V9 h2) h
  |some x=>
   cases step with
   |some _=>exact .no
   |none=>
    refine .ob fun k hk=>.ob fun b hb=>.ob fun vs hvs=>.so fun h=>?_
    obtain⟨j,p1,rfl⟩:=nk hk;obtain rfl:=cf hb;exact t8 S n r (gr hvs) h
theorem xN(S:Sit w F)(R:Room F.A d)(hE:bX w d ih.ev)(hN:bF ih.ev)(n:Now w F.h₀ F.L m X l st s)(hl:LocR F X l zl m){o i:xpZ}{a:MV}{zz:MS}{pos:Pos}(e1:ih.ev F.scope.names zl st o=some (a,zz)):
  Al (PY ih F.scope.names zl zz a i) fun p=>Goes w F m X l s p.1 p.2 Q→wpAny (M w) F.A (eval (.Subscript o i pos) F.env) Q E s:=by
 have K:Al (pb (ih.ev F.scope.names zl zz i) fun k st=>(fT st a k).map fun v=>(v,st)) fun p=>Goes w F m X l s p.1 p.2 Q→wpAny (M w) F.A (eval (.Subscript o i pos) F.env) Q E s:=
  .pb fun k st2 e2=>.mp fun v h1 h=>wf S R hE hN e1 e2 h1 n hl h
 cases i with
 |Slice lo hi step p=>exact fun q e h=>Subscript_ (hE F S R m X l st s zl o a zz e1 n hl _ _ fun a' s1 l1 n1 x1 m1 r1=>tn S n1 r1 q e (h.step x1 m1))
 |_=>exact K
theorem xO(S:Sit w F)(R:Room F.A d)(hE:bX w d ih.ev)(n:Now w F.h₀ F.L m X l st s)(hl:LocR F X l zl m){op:PySem.UnaryOp}{x:xpZ}{pos:Pos}:
  Al (Fx ih F.scope.names zl st op x) fun p=>Goes w F m X l s p.1 p.2 Q→wpAny (M w) F.A (eval (.UnaryOp op x pos) F.env) Q E s:=by
 cases op with
 |Not=>
  delta Fx
  exact .pb fun a zz e1=>.mp fun c e3 h=>wg S R hE e1 e3 n hl h
 |USub=>
  delta Fx
  refine .pb fun a zz e1=>.ob fun i hi=>.so fun h=>?_
  obtain rfl:=bd hi;exact wh S R hE e1 n hl h
 |_=>exact .no
theorem xP(S:Sit w F)(R:Room F.A d)(hE:bX w d ih.ev)(hC:eC w d ih.cal)(hN:bF ih.ev)(n:Now w F.h₀ F.L m X l st s)(hl:LocR F X l zl m){args:List xpZ}{f:xpZ}{pos:Pos}:
  Al (PZ ih F.scope.names zl st args pos f) fun p=>Goes w F m X l s p.1 p.2 Q→wpAny (M w) F.A (eval (.Call f args [] pos) F.env) Q E s:=by
 cases f with
 |Name g p=>
  refine .ob fun b hb=>?_
  cases b with
  |true=>exact .no
  |false=>exact .pb fun vs zz e1 q e h=>kL S R hE hC hN hb e1 e n hl h
 |Attribute o x p=>exact .gd fun ho=>.pb fun a zz e0=>.ob fun k ek=>.pb fun vs st2 e1 q e h=>kM S R hE hC hN ho e0 ek e1 e n hl h
 |_=>exact .no
theorem xQ(S:Sit w F)(R:Room F.A d)(hE:bX w d ih.ev)(hS:gf ih.ev)(hM:kJ ih.ev)(n:Now w F.h₀ F.L m X l st s)(hl:LocR F X l zl m){elt:xpZ}{gs:List Comprehension}{sc:Scope}{pos:Pos}:
  Al (Z2 ih F.scope.names zl st elt gs sc) fun p=>Goes w F m X l s p.1 p.2 Q→wpAny (M w) F.A (eval (.ListComp elt gs sc pos) F.env) Q E s:=by
 refine .ob fun g hg=>.pb fun a zz e1=>.ob fun r hr=>.ob fun vs hvs=>.gd fun ho=>.ob fun ys hy=>.gd fun hk=>.so fun h=>?_
 obtain⟨x,it,ifs⟩:=g;obtain⟨px,rfl⟩:=QG hg;obtain rfl:=cf hr;have hv:=gr hvs
 have hk:=QH hk
 cases hn:ju it with
 |some y=>
  obtain⟨py,rfl⟩:=jY hn;exact rK S hM e1 hv ho hk hy n hl h
 |none=>
  dsimp only at hy
  unfold sV at hy;rw [hn]at hy
  cases vs with
  |nil=>
   obtain rfl:=oiZ hy;exact rI S R hE hS e1 hv ho hk n hl h
  |cons _ _=>exact aF hy
end
section
theorem xR(hE:bX w d ih.ev)(hT:nx w d ih.tst)(hC:eC w d ih.cal)(hN:bF ih.ev)(hS:gf ih.ev)(hM:kJ ih.ev):bX w d (jv ih):=by
 intro F S R m X l st s zl e v st' he n hl Q E h
 refine (?_:Al (jv ih F.scope.names zl st e) fun p=>Goes w F m X l s p.1 p.2 Q→wpAny (M w) F.A (eval e F.env) Q E s) (v,st') he h
 clear he h
 cases e with
 |Constant c k pos=>exact xL n
 |Name x pos=>exact xM S n hl
 |Attribute o x pos=>
  show Al (gd (iR o) (pb (ih.ev F.scope.names zl st o) fun a st=>(ll st a x).map fun v=>(v,st))) _
  exact Al.gd fun hb=>.pb fun a zz e1=>.mp fun u h1 h=>tN S R hE hb e1 h1 n hl h
 |Subscript o i pos=>
  show Al (pb (ih.ev F.scope.names zl st o) fun a st=>PY ih F.scope.names zl st a i) _
  exact Al.pb fun a zz e1=>xN S R hE hN n hl e1
 |Compare a ops rs pos=>
  show Al (evQ ih F.scope.names zl st a ops rs MV.bool) _
  refine Al.evQ fun op r x zz y st2 c e1 e2 e3 h1 h2 h=>?_
  subst h1 h2;exact mL S R hE hS e1 e2 e3 n hl h
 |BoolOp op vs pos=>exact mN S R hE n hl
 |UnaryOp op a pos=>exact xO S R hE n hl
 |BinOp a op b pos=>
  show Al (pb (ih.ev F.scope.names zl st a) fun x st=>pb (ih.ev F.scope.names zl st b) fun y st=>qj st op x y) _
  exact Al.pb fun x zz e1=>.pb fun y st2 e2 q e h=>qw S R hE e1 e2 e n hl h
 |IfExp t a b pos=>
  show Al (pb (ih.tst F.scope.names zl st t) fun c st=>match c with
   |true=>ih.ev F.scope.names zl st a
   |false=>ih.ev F.scope.names zl st b) _
  refine Al.pb fun c zz e1=>?_
  cases c with
  |true=>exact fun q e h=>j4 S R hE hT e1 e n hl h
  |false=>exact fun q e h=>j4 S R hE hT e1 e n hl h
 |Tuple es k pos=>
  show Al (pb (bU ih.ev F.scope.names zl st es) fun vs st=>fy vs.length (some (MV.tup vs,st))) _
  exact Al.pb fun vs zz e1=>.ok fun hk=>.so fun h=>qv S R hE hN e1 hk n hl h
 |List es pos=>
  show Al (pb (bU ih.ev F.scope.names zl st es) fun vs st=>fy vs.length (some (MV.ref st.H.length,psh st (.list vs)))) _
  exact Al.pb fun vs zz e1=>.ok fun hk=>.so fun h=>tL S R hE hN e1 hk n hl h
 |Dict ks vs pos=>
  cases ks with
  |cons _ _=>exact .no
  |nil=>
   cases vs with
   |cons _ _=>exact .no
   |nil=>exact Al.so (x:=(MV.ref st.H.length,psh st (.dict []))) fun h=>tM S n h
 |Call f args ks pos=>
  cases ks with
  |cons _ _=>exact .no
  |nil=>exact xP S R hE hC hN n hl
 |ListComp elt gs sc pos=>exact xQ S R hE hS hM n hl
 |_=>exact .no
end
def ItO(l:LS)(I:Addr)(i:Nat)(o:Obj):Src→Prop
 | .tup vs=>∃ax ws,(ax,ay ws) ∈ l.im∧l.VRs vs ws∧∀h:Heap,h.get? I=some o→h.IsTupleIter I ax i
 | .lst r=>∃ax,l.as[r]? =some ax∧∀h:Heap,h.get? I=some o→h.IsListIter I ax i
 | .rng k=>∀h:Heap,h.get? I=some o→IsRangeIter h I (i:Int) ((k:Int) - (i:Int)) 1
theorem ItO.mono{l l':LS}(x:Ext l l'){I:Addr}{i:Nat}{o:Obj}:∀{sv:Src},ItO l I i o sv→ItO l' I i o sv
 | .tup vs,⟨ax,ws,a,b,c⟩=>⟨ax,ws,x.im _ a,x.vrs b,c⟩
 | .lst r,⟨ax,a,b⟩=>⟨ax,be x.as a,b⟩
 | .rng k,h=>h
theorem ItO.cls{l:LS}{I:Addr}{i:Nat}{o:Obj}{h:Heap}(hg:h.get? I=some o):∀{sv:Src},ItO l I i o sv→(o.cls=.type "tuple_iterator"∨o.cls=.type "list_iterator"∨o.cls=.type "range_iterator")∧∃vs,o.data=.fields vs
 | .tup vs,⟨ax,ws,a,b,c⟩=>by
  obtain⟨o',g,e,d⟩:=c h hg;obtain rfl:=oiZ (hg.symm.trans g);exact⟨.inl e,_,d⟩
 | .lst r,⟨ax,a,b⟩=>by
  obtain⟨o',g,e,d⟩:=b h hg;obtain rfl:=oiZ (hg.symm.trans g);exact⟨.inr (.inl e),_,d⟩
 | .rng k,c=>by
  have g:=c h hg;unfold IsRangeIter at g;obtain rfl:=oiZ (hg.symm.trans g);exact⟨.inr (.inr rfl),_,rfl⟩
section
variable{l:LS}{st:MS}{s:Shared}{E:Value→Shared→Prop}
theorem Now.drop{p:Addr×Obj}(n:Now w F.h₀ F.L m (p::X) l st s):Now w F.h₀ F.L m X l st s:=
 ⟨n.F,fun q hq=>n.N q (by
  rcases maZ hq with h|h
  ·exact mlZ _ h
  ·rcases maZ h with h|h
   ·exact mrZ _ (mlZ _ h)
   ·exact mrZ _ (mrZ _ (.tail _ h))),n.H,fun q hq=>n.ap q (.tail _ hq),n.sm,n.bq,n.oq⟩
theorem LocR.grow{p:Addr×Obj}(h:LocR F X l zl m):LocR F (p::X) l zl m:=fun y v e i=>let ⟨v',h1,h2⟩:=h y v e i;⟨v',h1,h2.imp id fun ⟨a,c,o,b,q,r⟩=>⟨a,c,o,b,.tail _ q,r⟩⟩
theorem LocR.drop{p:Addr×Obj}(hp:∀v,p.2.data≠ .cell v)(h:LocR F (p::X) l zl m):LocR F X l zl m:=fun y v e i=>let ⟨v',h1,h2⟩:=h y v e i;⟨v',h1,h2.imp id fun ⟨a,c,o,b,q,r⟩=>⟨a,c,o,b,by
 cases q with
 |head=>exact absurd r (hp _)
 |tail _ q=>exact q,r⟩⟩
theorem Now.turn{I:Addr}{o o':Obj}(n:Now w F.h₀ F.L m ((I,o)::X) l st s)(hX:∀p ∈ X,p.1≠I){h':Heap}{t:Nat}(hs:Heap.SameBut I s.heap h')(ho:h'.get? I=some o')(hi:∀p ∈ l.im,p.1≠I):Now w F.h₀ F.L m ((I,o')::X) l st {s with heap:=h',toks:=t}:=by
 have D:=n.N (I,o) (mrZ _ (mrZ _ (.head _)))
 have hl:∀q ∈ l.RL,q.1≠I:=fun q hq e=>n.ap (I,o) (.head _) q hq e.symm
 refine⟨⟨n.F.ns.sameBut hs (Ne.symm D.2.1),fun b ob e=>(hs.2 b fun q=>?_).trans (n.F.keep b ob e),n.F.above⟩,fun p hp=>?_,n.H,fun p hp q hq=>?_,n.sm,n.bq,n.oq⟩
 ·rw [q,D.2.2]at e;cases e
 ·have hp':p ∈ l.RL++(l.im++((I,o')::X)):=hp;rcases maZ hp' with h|h
  ·have P:=n.N p (mlZ _ h);exact⟨(hs.2 _ (hl p h)).trans P.1,P.2⟩
  ·rcases maZ h with h|h
   ·have P:=n.N p (mrZ _ (mlZ _ h));exact⟨(hs.2 _ (hi p h)).trans P.1,P.2⟩
   ·rcases mcZ h with rfl|h
    ·exact⟨ho,D.2⟩
    ·have P:=n.N p (mrZ _ (mrZ _ (.tail _ h)));exact⟨(hs.2 _ (hX p h)).trans P.1,P.2⟩
 ·rcases mcZ hp with rfl|h
  ·exact n.ap (I,o) (.head _) q hq
  ·exact n.ap p (.tail _ h) q hq
theorem Now.turnEnd{I:Addr}{o:Obj}(n:Now w F.h₀ F.L m ((I,o)::X) l st s)(hX:∀p ∈ X,p.1≠I){h':Heap}{t:Nat}(hs:Heap.ExtBut I s.heap h')(hi:∀p ∈ l.im,p.1≠I):Now w F.h₀ F.L m X l st {s with heap:=h',toks:=t}:=by
 have D:=n.N (I,o) (mrZ _ (mrZ _ (.head _)))
 have hl:∀q ∈ l.RL,q.1≠I:=fun q hq e=>n.ap (I,o) (.head _) q hq e.symm
 obtain⟨oL,es,ep,hL,r⟩:=n.F.ns
 refine⟨⟨⟨oL,es,ep,hs _ _ (Ne.symm D.2.1) hL,r⟩,fun b ob e=>hs b ob (fun q=>?_) (n.F.keep b ob e),n.F.above⟩,fun p hp=>?_,n.H,fun p hp q hq=>n.ap p (.tail _ hp) q hq,n.sm,n.bq,n.oq⟩
 ·rw [q,D.2.2]at e;cases e
 ·have hp':p ∈ l.RL++(l.im++X):=hp;rcases maZ hp' with h|h
  ·have P:=n.N p (mlZ _ h);exact⟨hs _ _ (hl p h) P.1,P.2⟩
  ·rcases maZ h with h|h
   ·have P:=n.N p (mrZ _ (mlZ _ h));exact⟨hs _ _ (hi p h) P.1,P.2⟩
   ·have P:=n.N p (mrZ _ (mrZ _ (.tail _ h)));exact⟨hs _ _ (hX p h) P.1,P.2⟩
theorem Now.beside(n:Now w F.h₀ F.L m X l st s)(o:Obj)(hf:o.isFreed=false){t:Nat}:Now w F.h₀ F.L m ((s.heap.objs.size,o)::X) l st {s with heap:=s.heap.push o,toks:=t}∧(∀p ∈ X,p.1≠s.heap.objs.size)∧(∀p ∈ l.im,p.1≠s.heap.objs.size):=by
 obtain⟨F',N'⟩:=n.pushes o hf
 refine⟨⟨F',fun p hp=>N' p ?_,n.H,fun p hp q hq=>?_,n.sm,n.bq,n.oq⟩,fun p hp=>Nat.ne_of_lt (n.lt (mrZ _ (mrZ _ hp))),fun p hp=>Nat.ne_of_lt (n.lt (mrZ _ (mlZ _ hp)))⟩
 ·have hp':p ∈ l.RL++(l.im++((s.heap.objs.size,o)::X)):=hp;simp only [yoZ,yhZ]at hp' ⊢;rcases hp' with h|h|h|h
  ·exact .inr (.inl h)
  ·exact .inr (.inr (.inl h))
  ·exact .inl h
  ·exact .inr (.inr (.inr h))
 ·rcases mcZ hp with rfl|h
  ·exact Nat.ne_of_gt (n.lt (mlZ _ hq))
  ·exact n.ap p h q hq
theorem Va{I:Addr}{o:Obj}(n:Now w F.h₀ F.L m ((I,o)::X) l st s)(hc:o.cls≠ .type "tuple"):∀p ∈ l.im,p.1≠I:=fun p hp e=>by
 obtain⟨ws,hw⟩:=n.H.imt p hp;have g1:=(n.N p (mrZ _ (mlZ _ hp))).1;have g2:=(n.N (I,o) (mrZ _ (mrZ _ (.head _)))).1;rw [e,g2]at g1;have:o=p.2:=oiZ g1
 exact hc (by rw [this,hw])
theorem A4{as:List Addr}{ks:List (Bool×Int)}{im:List (Addr×Obj)}{vs:List MV}{ws:List Value}{i:Nat}(h:VRs as ks im vs ws)(q:aH vs i=none):ws.toArray[i]? =none:=by
 rw [List.getElem?_toArray,List.getElem?_eq_none_iff,h.length.symm];exact List.getElem?_eq_none_iff.mp (aJ .. ▸q)
theorem Vb{k i:Nat}:(k:Int) - (i:Int) - 1=(k:Int) - ((i+1:Nat):Int):=by lia
theorem Vc{i k:Nat}(q:Nat.blt i k=false):(k:Int) - (i:Int)≤0:=by
 have:¬i < k:=fun h=>by
  have:Nat.blt i k=true:=blZ h;rw [this]at q;cases q
 lia
theorem mh(S:Sit w F){I:Addr}{o:Obj}(n:Now w F.h₀ F.L m ((I,o)::X) l st s)(hX:∀p ∈ X,p.1≠I){sv:Src}{i:Nat}(hI:ItO l I i o sv){r:Option MV}(e:sX st sv i=some r){Q:Option Value→Shared→Prop}
  (h1:∀v v' s' o',r=some v→l.VR v v'→Now w F.h₀ F.L m ((I,o')::X) l st s'→ItO l I (i+1) o' sv→Same s s'→Q (some v') s')
  (h2:∀s',r=none→Now w F.h₀ F.L m X l st s'→Same s s'→Q none s'):wpAny (M w) F.A (pyNext (.ref I)) Q E s:=by
 have D:=(n.N (I,o) (mrZ _ (mrZ _ (.head _)))).1;have hcl:=(ItO.cls D hI).1
 have hi:=Va n (by rcases hcl with h|h|h <;>rw [h] <;>exact mI (by decide))
 cases sv with
 |tup vs=>
  obtain rfl:=oiZ e;obtain⟨ax,ws,hm,hR,hit⟩:=hI;have hT:s.heap.IsTuple ax ws.toArray:=⟨_,(n.N _ (mrZ _ (mlZ _ hm))).1,rfl,_,rfl⟩
  cases q:aH vs i with
  |some v=>
   obtain⟨v',hv',hvr⟩:=hR.get (aJ .. ▸q)
   refine wpAny_pyNext_tuple_item (hit _ D) hT (x:=v') ((List.getElem?_toArray ..).trans hv') fun h' hit' hs=>?_
   obtain⟨o',ho',hc',hd'⟩:=hit'
   exact h1 v v' _ o' q hvr (n.turn (t:=s.toks) hX hs ho' hi) ⟨ax,ws,hm,hR,fun h'' hg=>⟨o',hg,hc',hd'⟩⟩ Same.mk'
  |none=>exact wpAny_pyNext_tuple_end S.hd (hit _ D) hT (A4 hR q) fun h' hs=>h2 _ q (n.turnEnd (t:=s.toks) hX hs hi) Same.mk'
 |lst r0=>
  obtain⟨vs,hvs,e⟩:=bV e;obtain rfl:=oiZ e;obtain⟨ax,hax,hit⟩:=hI;obtain⟨ax',ws,ep,e',hg',hT,hR,_⟩:=n.lst (v':=.ref ax) (.ref hax) (gr hvs);injection e' with e';subst e'
  cases q:aH vs i with
  |some v=>
   obtain⟨v',hv',hvr⟩:=hR.get (aJ .. ▸q)
   refine wpAny_pyNext_list_item (hit _ D) hT (x:=v') ((List.getElem?_toArray ..).trans hv') fun h' hit' hs=>?_
   obtain⟨o',ho',hc',hd'⟩:=hit'
   exact h1 v v' _ o' q hvr (n.turn (t:=s.toks) hX hs ho' hi) ⟨ax,hax,fun h'' hg=>⟨o',hg,hc',hd'⟩⟩ Same.mk'
  |none=>exact wpAny_pyNext_list_end S.hd (hit _ D) hT (A4 hR q) fun h' hs=>h2 _ q (n.turnEnd (t:=s.toks) hX hs hi) Same.mk'
 |rng k=>
  have e:=(oiZ e).symm;have hit:=hI _ D
  cases q:Nat.blt i k with
  |true=>
   rw [q]at e
   refine wpAny_pyNext_range_item hit (Int.sub_pos_of_lt (Int.ofNat_lt.mpr (lbZ q))) fun h' hit' hs=>?_
   rw [Vb]at hit'
   exact h1 (.int (.ofNat i)) _ _ _ e (.int _ _) (n.turn (t:=s.toks+1) hX hs hit' hi) (fun h'' hg=>hg) Same.mk'
  |false=>
   rw [q]at e
   exact wpAny_pyNext_range_end S.hd hit (Vc q) fun h' hs=>h2 _ e (n.turnEnd (t:=s.toks) hX hs hi) Same.mk'
end
section
variable{l l1:LS}{st:MS}{s s1 s2:Shared}{E:Value→Shared→Prop}{rn:Rn}{n':Nat}
theorem RestOk.up(h:RestOk w F X l1 s1 rn n K v st' s2)(x:Ext l l1)(y:Same s s1)(hn:n≤n'):RestOk w F X l s rn n' K v st' s2:=by
 obtain⟨k,m1,l2,loc1,zz,hk,hr,a,b,c,e⟩:=h;exact⟨k,m1,l2,loc1,zz,leZ hk hn,hr,a,b,x.trans c,y.trans e⟩
theorem RetOk.up{v':Value}(h:RetOk w F X l1 s1 v st' v' s2)(x:Ext l l1)(y:Same s s1):RetOk w F X l s v st' v' s2:=by
 obtain⟨m1,l2,a,b,c,e⟩:=h;exact⟨m1,l2,a,x.trans b,y.trans c,e⟩
theorem Ends.up{fl:Flow}(h:Ends w F X l1 s1 rn n K v st' fl s2)(x:Ext l l1)(y:Same s s1)(hn:n≤n'):Ends w F X l s rn n' K v st' fl s2:=by
 cases fl with
 |next=>exact RestOk.up h x y hn
 |brk=>exact h
 |cont=>obtain⟨K',hK,h⟩:=h;exact⟨K',hK,h.up x y hn⟩
 |ret v'=>exact RetOk.up h x y
structure ph(w:Wd)(d:Nat)(zy:Nat→Ih)(n:Nat):Prop where
 z:∀cx K zl st,(zy 0).run cx K zl st=none
 s:∀k,(zy (k+1)).run=wW (zy k)
 E:∀k,k≤n→bX w d (zy k).ev
 T:∀k,k≤n→nx w d (zy k).tst
 N:∀k,bF (zy k).ev
 S:∀k,gf (zy k).ev
 R:∀k,k≤n→wz w d (fun k=>(zy k).run) k
theorem ia{e:xpZ}(h:dX e=true)(t:Option xpZ)(n:Nat)(env:Env):swapsWith e t n env=pure false:=by
 cases e <;>first|rfl|cases h
theorem mi{t e:xpZ}(h:jX t e=true):dX e=true∧∀es k p es' k' p',¬(t=.Tuple es k p∧e=.Tuple es' k' p'):=by
 obtain⟨h1,h2⟩:=cO h
 refine⟨h1,fun es k p es' k' p' ⟨a,b⟩=>?_⟩
 subst a b;exact cM h2
theorem fb{t e:xpZ}{env:Env}(h:∀es k p es' k' p',¬(t=.Tuple es k p∧e=.Tuple es' k' p'))(hl:∀es p,t≠ .List es p):swappedStores [t] e env=pure none:=by
 cases t with
 |Tuple es k p=>cases e with
  |Tuple es' k' p'=>exact absurd ⟨rfl,rfl⟩ (h es k p es' k' p')
  |_=>rfl
 |List es p=>exact absurd rfl (hl es p)
 |_=>rfl
variable{s:Shared}
end
section
variable{l:LS}{st:MS}{E:Value→Shared→Prop}{zy:Nat→Ih}{Q:Flow→Shared→Prop}
theorem dG(H:ph w d zy n)(S:Sit w F)(R:Room F.A d){ss:List Stmt}{s1:Shared}(h:RestOk w F X l s (fun k=>(zy k).run) n (.stm ss::K) v st' s1)
  (hQ:∀fl s1,Ends w F X l s (fun k=>(zy k).run) (n+1) K v st' fl s1→Q fl s1):wpAny (M w) F.A (execs ss F.env) Q E s1:=by
 obtain⟨k,m1,l1,loc1,zz,hk,hr,nn,hl,x,y⟩:=h
 exact H.R k hk F S R m1 X l1 zz s1 loc1 ss K v st' hr nn hl Q E fun fl s2 he=>hQ fl s2 (he.up x y (Nat.le_succ_of_le hk))
theorem kN(H:ph w d zy n)(S:Sit w F)(R:Room F.A d){ss:List Stmt}{s1:Shared}{fl:Flow}(h:Ends w F X l s (fun k=>(zy k).run) n (.stm ss::K) v st' fl s1)
  (hQ:∀fl s1,Ends w F X l s (fun k=>(zy k).run) (n+1) K v st' fl s1→Q fl s1):(match (generalizing:=false) fl with| .next=>wpAny (M w) F.A (execs ss F.env) Q E s1|f=>Q f s1):=by
 cases fl with
 |next=>exact dG H S R h hQ
 |brk=>exact h.elim
 |cont=>
  obtain⟨K',hK,h⟩:=h;exact hQ .cont s1 ⟨K',hK,h.up Ext.rfl' Same.rfl' (Nat.le_succ n)⟩
 |ret v'=>exact hQ (.ret v') s1 h
inductive GZ(zy:Nat→Ih)(w:Wd)(F:Fm)(X:List (Addr×Obj))(l:LS)(s:Shared)(t:xpZ)(body ss:List Stmt)(K:List Itm)(v:MV)(st':MS)(n k:Nat)(s1:Shared):Prop
 |mk (hk:k≤n) (m1:Str→Option Value) (l1:LS) (loc1:Loc) (zz:MS) (h1:(zy k).run F.scope.names (.whl t body::.stm ss::K) loc1 zz=some (v,st')) (h2:Now w F.h₀ F.L m1 X l1 zz s1) (h4:LocR F X l1 loc1 m1) (h5:Ext l l1) (h6:Same s s1):GZ zy w F X l s t body ss K v st' n k s1
theorem rM(H:ph w d zy n)(S:Sit w F)(R:Room F.A d){t:xpZ}{body ss:List Stmt}{pos:Pos}(he:(zy n).run F.scope.names (.whl t body::.stm ss::K) zl st=some (v,st'))(hn:Now w F.h₀ F.L m X l st s)(hl:LocR F X l zl m)
  (hQ:∀fl s1,Ends w F X l s (fun k=>(zy k).run) (n+1) K v st' fl s1→Q fl s1):
  wpAny (M w) F.A (exec (.While t body [] pos) F.env) (fun f s'=>match f with| .next=>wpAny (M w) F.A (execs ss F.env) Q E s'|f=>Q f s') E s:=by
 refine wpAny_While (codeAny_whileLoop (GZ zy w F X l s t body ss K v st' n) ?_ n ⟨lrZ _,m,l,zl,st,he,hn,hl,Ext.rfl',Same.rfl'⟩)
 rintro k s1 ⟨hk,m1,l1,loc1,zz,hr,n1,hl1,x1,y1⟩
 cases k with
 |zero=>exact aF ((H.z ..).symm.trans hr)
 |succ j=>
  rw [H.s]at hr;have hj:j≤n:=Nat.le_of_succ_le hk
  obtain⟨c,st2,e1,hr⟩:=qk (show pb ((zy j).tst F.scope.names loc1 zz t) (fun c st=>match c with
   |true=>(zy j).run F.scope.names (.stm body::.whl t body::.stm ss::K) loc1 st
   |false=>(zy j).run F.scope.names (.stm ss::K) loc1 st)=some (v,st')from hr)
  cases c with
  |true=>
   refine H.T j hj F S R m1 X l1 zz s1 loc1 t true st2 e1 n1 hl1 _ _ fun s2 l2 n2 x2 y2=>?_
   rw [if_pos rfl]
   refine H.R j hj F S R m1 X l2 st2 s2 loc1 body (.whl t body::.stm ss::K) v st' hr n2 (hl1.mono x2) _ _ fun fl s3 h3=>?_
   have go:RestOk w F X l2 s2 (fun k=>(zy k).run) j (.whl t body::.stm ss::K) v st' s3→∃m,m < j+1∧GZ zy w F X l s t body ss K v st' n m s3:=by
    rintro⟨k',m3,l3,loc3,st3,hk',hr3,n3,hl3,x3,y3⟩
    exact⟨k',Nat.lt_succ_of_le hk',leZ hk' hj,m3,l3,loc3,st3,hr3,n3,hl3,(x1.trans x2).trans x3,(y1.trans y2).trans y3⟩
   cases fl with
   |next=>exact go h3
   |brk=>exact h3.elim
   |cont=>
    obtain⟨K',hK,h3⟩:=h3;exact go (oiZ hK ▸h3)
   |ret v'=>exact hQ (.ret v') s3 (RetOk.up (RetOk.up h3 x2 y2) x1 y1)
  |false=>
   refine H.T j hj F S R m1 X l1 zz s1 loc1 t false st2 e1 n1 hl1 _ _ fun s2 l2 n2 x2 y2=>?_
   rw [if_neg (by decide)]
   refine wpAny_execs_nil ?_;exact dG H S R ⟨j,m1,l2,loc1,st2,hj,hr,n2,hl1.mono x2,x1.trans x2,y1.trans y2⟩ hQ
theorem tu{M:Model}{A:Around}{I:Addr}{o:Obj}{t:xpZ}{v':Value}{Q:Unit→Shared→Prop}(hg:s.heap.get? I=some o)(hc:o.cls=.type "tuple_iterator"∨o.cls=.type "list_iterator"∨o.cls=.type "range_iterator")(hd:∃vs,o.data=.fields vs)(h:Q () s):wpAny M A (letOwnedTupleGo t (.ref I) v') Q E s:=by
 have go:∀a,wpAny M A (do
   let o ←load I
   match o.cls,o.data with
   | .type n,.fields vs=>
    if ["enumerate","zip","dict_itemiterator","dict_reverseitemiterator","odict_iterator","itertools.zip_longest","itertools.pairwise"].contains n && vs[0]? ==some (rawInt a) then do
     rule "for.unpacks-the-owned-tuple"
     updateField I 0 .none
   |_,_=>pure ()) Q E s:=fun a=>by
  refine wpAny_bind (wpAny_load hg ?_);obtain⟨vs,hd⟩:=hd;rw [hd]
  rcases hc with hc|hc|hc <;>rw [hc] <;>exact wpAny_pure h
 unfold letOwnedTupleGo
 cases t <;>first|exact wpAny_pure h|(cases v' <;>first|exact wpAny_pure h|exact go _)
inductive G0(zy:Nat→Ih)(w:Wd)(F:Fm)(X:List (Addr×Obj))(l:LS)(s:Shared)(x:xpZ)(body ss:List Stmt)(sv:Src)(I:Addr)(K:List Itm)(v:MV)(st':MS)(n k:Nat)(s1:Shared):Prop
 |mk (hk:k≤n) (i:Nat) (m1:Str→Option Value) (l1:LS) (loc1:Loc) (zz:MS) (o1:Obj) (h1:(zy k).run F.scope.names (.forI x sv i body::.stm ss::K) loc1 zz=some (v,st')) (h2:Now w F.h₀ F.L m1 ((I,o1)::X) l1 zz s1) (h3:ItO l1 I i o1 sv) (h4:LocR F X l1 loc1 m1) (h5:Ext l l1) (h6:Same s s1):G0 zy w F X l s x body ss sv I K v st' n k s1
theorem eD(H:ph w d zy n)(S:Sit w F)(R:Room F.A d){x:xpZ}{body ss:List Stmt}{sv:Src}{I:Addr}{o:Obj}(he:(zy n).run F.scope.names (.forI x sv 0 body::.stm ss::K) zl st=some (v,st'))
  (hn:Now w F.h₀ F.L m ((I,o)::X) l st s) (hX:∀p ∈ X,p.1≠I) (hI:ItO l I 0 o sv) (hl:LocR F X l zl m) (hQ:∀fl s1,Ends w F X l s (fun k=>(zy k).run) (n+1) K v st' fl s1→Q fl s1):
  codeAny (M w) F.A (.forLoop x (.ref I) body [] F.env) (fun r s'=>match r with| .ok f=>(match f with| .next=>wpAny (M w) F.A (execs ss F.env) Q E s'|f=>Q f s')| .error e=>cameBackBy (M w) F.A F.env E e s') s:=by
 refine codeAny_forLoop_any (G0 zy w F X l s x body ss sv I K v st' n) ?_ n ⟨lrZ _,0,m,l,zl,st,o,he,hn,hI,hl,Ext.rfl',Same.rfl'⟩
 rintro k s1 ⟨hk,i,m1,l1,loc1,zz,o1,hr,n1,hI1,hl1,x1,y1⟩
 cases k with
 |zero=>exact aF ((H.z ..).symm.trans hr)
 |succ j=>
  rw [H.s]at hr;have hj:j≤n:=Nat.le_of_succ_le hk
  obtain⟨o0,e0,hr⟩:=bV (show ob (sX zz sv i) (fun o=>match o with
   |some v=>pb (bL (zy j) F.scope.names loc1 zz x v) fun zl st=>(zy j).run F.scope.names (.stm body::.forI x sv (Nat.succ i) body::.stm ss::K) zl st
   |none=>(zy j).run F.scope.names (.stm ss::K) loc1 zz)=some (v,st')from hr)
  cases o0 with
  |some v0=>
   obtain⟨loc2,st2,e2,hr⟩:=qk hr
   refine mh S n1 hX hI1 e0 (fun v1 v' s2 o2 hv hvr n2 hI2 y2=>?_) (fun s2 hv=>aF hv.symm)
   obtain rfl:=oiZ hv;have D2:=(n2.N (I,o2) (mrZ _ (mrZ _ (.head _)))).1;have hcl:=ItO.cls D2 hI2;refine tu D2 hcl.1 hcl.2 ?_
   refine kK S R (H.E j hj) (H.N j) e2 n2 hl1.grow hvr fun s3 l3 m3 n3 hl3 x3 y3=>?_
   refine H.R j hj F S R m3 ((I,o2)::X) l3 st2 s3 loc2 body (.forI x sv (Nat.succ i) body::.stm ss::K) v st' hr n3 hl3 _ _ fun fl s4 h4=>?_
   have hnc:∀u,(I,o2).2.data≠ .cell u:=fun u e=>
    let ⟨vs,hd⟩:=hcl.2
    nomatch hd.symm.trans e
   have go:RestOk w F ((I,o2)::X) l3 s3 (fun k=>(zy k).run) j (.forI x sv (Nat.succ i) body::.stm ss::K) v st' s4→∃m,m < j+1∧G0 zy w F X l s x body ss sv I K v st' n m s4:=by
    rintro⟨k',m4,l4,loc4,st4,hk',hr4,n4,hl4,x4,y4⟩
    exact⟨k',Nat.lt_succ_of_le hk',leZ hk' hj,Nat.succ i,m4,l4,loc4,st4,o2,hr4,n4,hI2.mono (x3.trans x4),hl4.drop hnc,(x1.trans x3).trans x4,((y1.trans y2).trans y3).trans y4⟩
   cases fl with
   |next=>exact go h4
   |brk=>exact h4.elim
   |cont=>
    obtain⟨K',hK,h4⟩:=h4;exact go (oiZ hK ▸h4)
   |ret v'=>
    obtain⟨m4,l4,n4,x4,y4,r4⟩:=h4;exact hQ (.ret v') s4 ⟨m4,l4,n4.drop,(x1.trans x3).trans x4,((y1.trans y2).trans y3).trans y4,r4⟩
  |none=>
   refine mh S n1 hX hI1 e0 (fun v1 v' s2 o2 hv=>aF hv) fun s2 _ n2 y2=>?_
   refine wpAny_execs_nil ?_;exact dG H S R ⟨j,m1,l1,loc1,zz,hj,hr,n2,hl1,x1,y1.trans y2⟩ hQ
theorem QI{o:Option Bool}(h:P5 o=true):o=some false:=match o,h with
 |none,h=>cM h
 |some true,h=>cM h
 |some false,_=>rfl
theorem QJ{cx:Cx}{e a:xpZ}(h:wV cx e=some a):∃p pp,e=.Call (.Name (sO "range") p) [a] [] pp∧bC cx (sO "range")=some false:=by
 cases e with
 |Call f as ks pp=>
  obtain⟨g,hf,h⟩:=bV h;obtain⟨p,rfl⟩:=jY hf;rcases as with _|⟨b,_|⟨_,_⟩⟩
  ·exact aF h
  ·rcases ks with _|⟨_,_⟩
   ·obtain⟨h1,h⟩:=fU h;obtain⟨h2,h3⟩:=fU h;obtain rfl:=sq_iff.mp h1;exact oiZ h3 ▸⟨p,pp,rfl,QI h2⟩
   ·exact aF h
  ·exact aF h
 |_=>exact aF h
theorem pi(k:Nat):Builtin.Range.rangeSize 0 (Int.ofNat k) 1=(k:Int):=by
 unfold Builtin.Range.rangeSize
 rw [if_pos (by decide)]
 show (if (0:Int) < (k:Int) then ((k:Int) - 0 - 1) / 1+1 else 0)=(k:Int)
 split <;>lia
theorem xS{k:Nat}(hk:k < 1048576):Builtin.Range.small 0 (Int.ofNat k) 1=true:=by
 unfold Builtin.Range.small;rw [pi];unfold Builtin.Range.rangeFitsLong;have hk':(Int.ofNat k)=(k:Int):=rfl;simp only [hk',Bool.and_eq_true,decide_eq_true_eq,Bool.or_eq_true];refine⟨⟨⟨⟨?_,?_⟩,?_⟩,?_⟩,.inr ?_⟩
 ·lia
 ·lia
 ·lia
 ·lia
 ·rw [if_pos (by lia)]
  simp only [Bool.and_eq_true,decide_eq_true_eq]
  lia
theorem ev1{ev:Cx→Loc→MS→xpZ→MR}{cx:Cx}{a:xpZ}{x:MV}{st2:MS}(e:ev cx zl st a=some (x,st2)):bU ev cx zl st [a]=some ([x],st2):=by
 show pb (ev cx zl st a) _=_
 rw [e];rfl
theorem tv(H:ph w d zy n)(S:Sit w F)(R:Room F.A d){x:xpZ}{body ss:List Stmt}{sv:Src}{u:MV}{u':Value}{zz:MS}(n1:Now w F.h₀ F.L m X l st s)(r1:l.VR u u')(e3:nj st u=some (sv,zz))(hl:LocR F X l zl m)
  (he:(zy n).run F.scope.names (.forI x sv 0 body::.stm ss::K) zl zz=some (v,st')) (hQ:∀fl s1,Ends w F X l s (fun k=>(zy k).run) (n+1) K v st' fl s1→Q fl s1):
  wpAny (M w) F.A (pyIter u') (fun I s'=>codeAny (M w) F.A (.forLoop x I body [] F.env) (fun r s'=>match r with| .ok f=>(match f with| .next=>wpAny (M w) F.A (execs ss F.env) Q E s'|f=>Q f s')| .error e=>cameBackBy (M w) F.A F.env E e s') s') E s:=by
 cases u with
 |tup vs=>
  obtain⟨rfl,rfl⟩:=Prod.mk.inj (oiZ e3);obtain⟨ax,ws,rfl,hi,hT,hR,_⟩:=n1.tupl r1;refine iter_tuple hT ?_;obtain⟨n2,hX,_⟩:=n1.beside {cls:=.type "tuple_iterator",data:=.fields #[.ref ax,.int 0 0]} rfl (t:=s.toks)
  exact eD H S R he n2 hX ⟨ax,ws,hi,hR,fun h hg=>⟨_,hg,rfl,rfl⟩⟩ hl fun fl s2 h2=>hQ fl s2 (h2.up Ext.rfl' Same.mk' (lrZ _))
 |ref r=>
  obtain⟨vs,h1,e3⟩:=bV e3;obtain⟨rfl,rfl⟩:=Prod.mk.inj (oiZ e3);obtain⟨ax,ws,ep,rfl,hg,hT,hR,_⟩:=n1.lst r1 (gr h1);refine wpAny_pyIter_list hT ?_;obtain⟨n2,hX,_⟩:=n1.beside {cls:=.type "list_iterator",data:=.fields #[.ref ax,.int 0 0]} rfl (t:=s.toks);obtain⟨ax',e',hax⟩:=r1.refI;injection e' with e';subst e'
  exact eD H S R he n2 hX ⟨ax,hax,fun h hg=>⟨_,hg,rfl,rfl⟩⟩ hl fun fl s2 h2=>hQ fl s2 (h2.up Ext.rfl' Same.mk' (lrZ _))
 |_=>exact aF e3
theorem xV(H:ph w d zy n)(S:Sit w F)(R:Room F.A d){x it:xpZ}{body ss:List Stmt}{pos:Pos}{sv:Src}{zz:MS}(e1:bv (zy n) F.scope.names zl st it=some (sv,zz))(he:(zy n).run F.scope.names (.forI x sv 0 body::.stm ss::K) zl zz=some (v,st'))
  (hn:Now w F.h₀ F.L m X l st s) (hl:LocR F X l zl m) (hQ:∀fl s1,Ends w F X l s (fun k=>(zy k).run) (n+1) K v st' fl s1→Q fl s1):
  wpAny (M w) F.A (exec (.For x it body [] pos) F.env) (fun f s'=>match f with| .next=>wpAny (M w) F.A (execs ss F.env) Q E s'|f=>Q f s') E s:=by
 have gen:∀{u:MV} {st2:MS},(zy n).ev F.scope.names zl st it=some (u,st2)→nj st2 u=some (sv,zz)→wpAny (M w) F.A (exec (.For x it body [] pos) F.env) (fun f s'=>match f with| .next=>wpAny (M w) F.A (execs ss F.env) Q E s'|f=>Q f s') E s:=by
  intro u st2 e2 e3
  refine wpAny_For (H.E n (lrZ _) F S R m X l st s zl it u st2 e2 hn hl _ _ fun u' s1 l1 n1 x1 y1 r1=>?_) (fun z=>i6 (H.S n _ _ _ _ _ e2) _ z)
  refine tv H S R n1 r1 e3 (hl.mono x1) he fun fl s2 h2=>hQ fl s2 (h2.up x1 y1 (lrZ _))
 unfold bv at e1
 cases hr:wV F.scope.names it with
 |none=>
  rw [hr]at e1;obtain⟨u,st2,e2,e1⟩:=qk e1;exact gen e2 e1
 |some a=>
  rw [hr]at e1;clear gen;obtain⟨p,pp,rfl,hx⟩:=QJ hr;have hg:=cq hx;obtain⟨u,st2,e2,e1⟩:=qk e1;obtain⟨k,hk0,e1⟩:=bV e1;obtain⟨hk,e1⟩:=VD e1;obtain⟨rfl,rfl⟩:=Prod.mk.inj (oiZ e1);obtain rfl:=fV hk0
  refine wpAny_For (Call_ ?_) (fun z=>rfl)
  refine nameX_B hn.F S.K (topRead_of S.T) (ti _) tm (by decide+kernel) ?_ S.kind hg (S.nodbg hg)
  refine cr S R (H.E n (lrZ _)) (H.N n) (vs:=[.int (.ofNat k)]) (st':=st2) (List.cons_ne_nil _ _) (ev1 e2) hn hl fun ws s1 l1 n1 x1 y1 r1=>?_
  obtain⟨_,_,rfl,ra,rs⟩:=r1.consI;obtain rfl:=rs.nilI;obtain⟨t,rfl⟩:=ra.intI;refine call_range_1 ?_
  have n2:=n1.kept (h':=s1.heap.push {cls:=.type "range",data:=.fields #[.int 0 s1.toks,.int (.ofNat k) t,.int 1 (s1.toks+1)]}) (t:=s1.toks+1+1) (fun b o e=>Heap.get?_push_of_some _ e)
  refine wpAny_pyIter_range (a:=0) (b:=Int.ofNat k) (c:=1) (t:=s1.toks) (u:=t) (v:=s1.toks+1) (Heap.get?_push_size _ rfl) (xS hk) ?_;rw [pi];obtain⟨n3,hX,_⟩:=n2.beside {cls:=.type "range_iterator",data:=.fields #[rawInt 0,rawInt (k:Int),rawInt 1]} rfl (t:=s1.toks+1+1)
  refine eD H S R he n3 hX (fun h hg=>?_) (hl.mono x1) fun fl s2 h2=>hQ fl s2 (h2.up x1 (y1.trans Same.mk') (lrZ _))
  show h.get? _=_
  rw [hg];simp
end
theorem gi{ih:Ih}{cx:Cx}{zl zu:Loc}{st st':MS}{t:xpZ}{v:MV}(e:bL ih cx zl st t v=some (zu,st')):(∀es p,t≠ .List es p)∧∀x p,t≠ .Starred x p:=by
 cases t <;>first|exact aF e|exact⟨fun _ _ h=>(nomatch h),fun _ _ h=>(nomatch h)⟩
theorem eE{t:xpZ}(h:∀x p,t≠ .Starred x p)(env:Env):(assignEach [t] env).map (·.2)=[assign t env]:=by
 cases t <;>first|rfl|exact absurd rfl (h _ _)
section
variable{l:LS}{st:MS}{E:Value→Shared→Prop}{zy:Nat→Ih}{Q:Flow→Shared→Prop}{ss:List Stmt}
def G1(w:Wd)(F:Fm)(X:List (Addr×Obj))(zy:Nat→Ih)(n:Nat)(l:LS)(s:Shared)(K:List Itm)(v:MV)(st':MS)(E:Value→Shared→Prop)(ss:List Stmt)(sm:Stmt):Prop:=
 ∀Q:Flow→Shared→Prop,(∀fl s1,Ends w F X l s (fun k=>(zy k).run) (n+1) K v st' fl s1→Q fl s1)→wpAny (M w) F.A (exec sm F.env) (fun f s'=>match f with| .next=>wpAny (M w) F.A (execs ss F.env) Q E s'|f=>Q f s') E s
theorem xW(H:ph w d zy n)(S:Sit w F)(R:Room F.A d){eo:Option xpZ}{pos:Pos}(he:(match eo with
   |some e=>(zy n).ev F.scope.names zl st e
   |none=>some (.none,st))=some (v,st')) (hn:Now w F.h₀ F.L m X l st s) (hl:LocR F X l zl m):G1 w F X zy n l s K v st' E ss (.Return eo pos):=by
 intro Q hQ
 cases eo with
 |some e=>exact wpAny_Return_some (H.E n (lrZ _) F S R m X l st s zl e v st' he hn hl _ _ fun v' s1 l1 n1 x1 y1 r1=>hQ (.ret v') s1 ⟨m,l1,n1,x1,y1,r1⟩)
 |none=>
  obtain⟨rfl,rfl⟩:=Prod.mk.inj (oiZ he);exact wpAny_Return_none (hQ (.ret .none) s ⟨m,l,hn,Ext.rfl',Same.rfl',.none⟩)
theorem xX(H:ph w d zy n)(S:Sit w F)(R:Room F.A d){e:xpZ}{pos:Pos}(he:gd (dX e) (pb ((zy n).ev F.scope.names zl st e) fun _ st=>(zy n).run F.scope.names (.stm ss::K) zl st)=some (v,st'))(hn:Now w F.h₀ F.L m X l st s)(hl:LocR F X l zl m):G1 w F X zy n l s K v st' E ss (.Expr e pos):=by
 intro Q hQ;obtain⟨hc,he⟩:=fU he;obtain⟨u,zz,e1,he⟩:=qk he
 refine wpAny_Expr_any (H.E n (lrZ _) F S R m X l st s zl e u zz e1 hn hl _ _ fun v' s1 l1 n1 x1 y1 r1=>?_) ?_ (ia hc _ _ _)
 ·exact dG H S R ⟨n,m,l1,zl,zz,lrZ _,he,n1,hl.mono x1,x1,y1⟩ hQ
 ·show (F.scope.kind==.module && _)=false
  rw [S.kind];rfl
theorem xY(H:ph w d zy n)(S:Sit w F)(R:Room F.A d){t e:xpZ}{pos:Pos}(he:gd (jX t e) (pb ((zy n).ev F.scope.names zl st e) fun v st=>pb (bL (zy n) F.scope.names zl st t v) fun zl st=>(zy n).run F.scope.names (.stm ss::K) zl st)=some (v,st'))(hn:Now w F.h₀ F.L m X l st s)(hl:LocR F X l zl m):G1 w F X zy n l s K v st' E ss (.Assign [t] e pos):=by
 intro Q hQ;obtain⟨hok,he⟩:=fU he;obtain⟨hc,ht⟩:=mi hok;obtain⟨u,zz,e1,he⟩:=qk he;obtain⟨loc2,st2,e2,he⟩:=qk he;obtain⟨a1,a2⟩:=gi e2;have hEn:=H.E n (lrZ _)
 refine wpAny_Assign_stores (hEn F S R m X l st s zl e u zz e1 hn hl _ _ fun v' s1 l1 n1 x1 y1 r1=>?_) (ia hc _ _ _) (fb ht a1)
 rw [eE a2]
 exact kK S R hEn (H.N n) e2 n1 (hl.mono x1) r1 fun s2 l2 m2 n2 hl2 x2 y2=>dG H S R ⟨n,m2,l2,loc2,st2,lrZ _,he,n2,hl2,x1.trans x2,y1.trans y2⟩ hQ
theorem QK{op:Operator}(h:Fy op=true):op=.Add:=by
 cases op <;>first|rfl|exact cM h
theorem xZ(H:ph w d zy n)(S:Sit w F)(R:Room F.A d){t e:xpZ}{op:Operator}{pos:Pos}(he:ob (ju t) (fun x=>gd (dw F.scope.names x) (ob (c7 x zl) fun a=>pb ((zy n).ev F.scope.names zl st e) fun b st=>gd (Fy op) (ob (b8 a) fun i=>ob (b8 b) fun j=>(zy n).run F.scope.names (.stm ss::K) (c8 x (.int (i+j)) zl) st)))=some (v,st'))(hn:Now w F.h₀ F.L m X l st s)(hl:LocR F X l zl m):G1 w F X zy n l s K v st' E ss (.AugAssign t op e pos):=by
 intro Q hQ;obtain⟨x,h1,he⟩:=bV he;obtain⟨px,rfl⟩:=jY h1;obtain⟨hx,he⟩:=fU he;obtain⟨a,ha,he⟩:=bV he;obtain⟨b,zz,e1,he⟩:=qk he;obtain⟨h2,he⟩:=fU he;obtain rfl:=QK h2;obtain⟨i,h3,he⟩:=bV he;obtain rfl:=bd h3;obtain⟨j,h4,he⟩:=bV he;obtain rfl:=bd h4;have hx':=gL hx
 obtain⟨a',r0,h0⟩:=hl x _ (cP .. ▸ha) (by unfold bC;rw [ly hx];rfl)
 have hm:m x=some a':=by
  rcases h0 with⟨_,h⟩|⟨h|h,_⟩
  ·exact h
  ·exact nomatch hx'.symm.trans h
  ·exact nomatch hx'.symm.trans h
 refine wpAny_AugAssign_Name (wpAny_loadName_local S.kind hx' hn.F.ns hm (H.E n (lrZ _) F S R m X l st s zl e _ zz e1 hn hl _ _ fun v' s1 l1 n1 x1 y1 r1=>?_))
 obtain⟨_,rfl⟩:=r0.intI;obtain⟨_,rfl⟩:=r1.intI;refine AutoIntOps.iadd_0 ?_;have n2:=n1.toks (s1.toks+1)
 exact gM S hx n2 (hl.mono x1) (.int (i+j) s1.toks) fun s3 m3 n3 hl3 y3=>dG H S R ⟨n,m3,l1,_,zz,lrZ _,he,n3,hl3,x1,(y1.trans Same.mk').trans y3⟩ hQ
theorem G2(H:ph w d zy n)(S:Sit w F)(R:Room F.A d){t:xpZ}{a b:List Stmt}{pos:Pos}(he:pb ((zy n).tst F.scope.names zl st t) (fun c st=>match c with
   |true=>(zy n).run F.scope.names (.stm a::.stm ss::K) zl st
   |false=>(zy n).run F.scope.names (.stm b::.stm ss::K) zl st)=some (v,st')) (hn:Now w F.h₀ F.L m X l st s) (hl:LocR F X l zl m):G1 w F X zy n l s K v st' E ss (.If t a b pos):=by
 intro Q hQ;obtain⟨c,zz,e1,he⟩:=qk he
 refine wpAny_If (H.T n (lrZ _) F S R m X l st s zl t c zz e1 hn hl _ _ fun s1 l1 n1 x1 y1=>?_)
 cases c with
 |true=>exact H.R n (lrZ _) F S R m X l1 zz s1 zl a (.stm ss::K) v st' he n1 (hl.mono x1) _ E fun fl s2 h2=>kN H S R (h2.up x1 y1 (lrZ _)) hQ
 |false=>exact H.R n (lrZ _) F S R m X l1 zz s1 zl b (.stm ss::K) v st' he n1 (hl.mono x1) _ E fun fl s2 h2=>kN H S R (h2.up x1 y1 (lrZ _)) hQ
theorem x6(H:ph w d zy n)(S:Sit w F)(R:Room F.A d){body:List Stmt}{h₀:ExceptHandler}{hs:List ExceptHandler}{pos:Pos}(he:(zy n).run F.scope.names (.stm body::.stm ss::K) zl st=some (v,st'))(hn:Now w F.h₀ F.L m X l st s)(hl:LocR F X l zl m):G1 w F X zy n l s K v st' E ss (.Try body (h₀::hs) [] [] pos):=by
 intro Q hQ
 refine wpAny_Try_except (H.R n (lrZ _) F S R m X l st s zl body (.stm ss::K) v st' he hn hl _ _ fun fl s2 h2=>?_)
 have z:=kN H S R (E:=E) h2 hQ
 cases fl with
 |next=>exact wpAny_execs_nil z
 |brk=>exact h2.elim
 |cont=>exact z
 |ret v'=>exact z
theorem tw(H:ph w d zy n)(S:Sit w F)(R:Room F.A d){sm:Stmt}(he:gq (zy n) F.scope.names K zl st ss sm=some (v,st'))(hn:Now w F.h₀ F.L m X l st s)(hl:LocR F X l zl m):G1 w F X zy n l s K v st' E ss sm:=by
 cases sm with
 |Return eo pos=>exact xW H S R he hn hl
 |Expr e pos=>exact xX H S R he hn hl
 |Assign ts e pos=>
  rcases ts with _|⟨t,_|⟨_,_⟩⟩
  ·exact aF he
  ·exact xY H S R he hn hl
  ·exact aF he
 |AugAssign t op e pos=>exact xZ H S R he hn hl
 |If t a b pos=>exact G2 H S R he hn hl
 |While t body el pos=>
  rcases el with _|⟨_,_⟩
  ·exact fun Q hQ=>rM H S R he hn hl hQ
  ·exact aF he
 |For x it body el pos=>
  rcases el with _|⟨_,_⟩
  ·obtain⟨sv,zz,e1,he⟩:=qk (show pb (bv (zy n) F.scope.names zl st it) (fun s st=>(zy n).run F.scope.names (.forI x s 0 body::.stm ss::K) zl st)=_ from he)
   exact fun Q hQ=>xV H S R e1 he hn hl hQ
  ·exact aF he
 |Continue pos=>
  obtain⟨K',hK,he⟩:=bV (show ob (jw K) (fun K=>(zy n).run F.scope.names K zl st)=_ from he)
  exact fun Q hQ=>wpAny_Continue (hQ .cont s ⟨K',hK,n,m,l,zl,st,Nat.le_succ n,he,hn,hl,Ext.rfl',Same.rfl'⟩)
 |Try body hs el fin pos=>
  rcases hs with _|⟨h0,hs⟩
  ·exact aF he
  ·rcases el with _|⟨_,_⟩
   ·rcases fin with _|⟨_,_⟩
    ·exact x6 H S R he hn hl
    ·exact aF he
   ·exact aF he
 |_=>exact aF he
theorem tx(H:ph w d zy n):wz w d (fun k=>(zy k).run) (n+1):=by
 intro F S R m X l st s zl ss K v st' he hn hl Q E hQ
 change (zy (n+1)).run F.scope.names (.stm ss::K) zl st=some (v,st')at he
 rw [H.s]at he
 cases ss with
 |nil=>exact wpAny_execs_nil (hQ .next s ⟨n,m,l,zl,st,Nat.le_succ n,he,hn,hl,Ext.rfl',Same.rfl'⟩)
 |cons sm ss=>exact wpAny_execs_cons (tw H S R he hn hl Q hQ)
end
theorem fK(O:aX):∀n d,bF (aA O n d).ev
 |0,d=>fun cx zl st e r h=>aF h
 |n+1,d=>fun cx zl st e r h=>by
  have h:jv (aA O n d) cx zl st e=some r:=h
  cases e <;>first|exact⟨rfl,rfl⟩|exact aF h
theorem gN(O:aX):∀n d,gf (aA O n d).ev
 |0,d=>fun cx zl st e r h=>aF h
 |n+1,d=>fun cx zl st e r h=>by
  have h:jv (aA O n d) cx zl st e=some r:=h
  cases e <;>first|rfl|exact aF h
theorem oS(O:aX):∀n d,kJ (aA O n d).ev
 |0,d=>fun cx zl st y p v st' h=>aF h
 |n+1,d=>fun cx zl st y p v st' h=>by
  refine (?_:Al (VC cx zl st y) fun q=>q.2=st∧((bC cx y=some true∧c7 y zl=some q.1)∨(y,q.1) ∈ gtab)) (v,st') h
  refine .ob fun b hb=>?_
  cases b with
  |true=>exact .mp fun u h1=>⟨rfl,.inl ⟨hb,h1⟩⟩
  |false=>exact .mp fun u h1=>⟨rfl,.inr (gz h1)⟩
theorem pj(O:aX):∀n d cx zl st v st',(aA O n d).run cx [] zl st=some (v,st')→v=.none∧st'=st
 |0,d,cx,zl,st,v,st',h=>aF h
 |n+1,d,cx,zl,st,v,st',h=>
  have q:=Prod.mk.inj (oiZ (show some (MV.none,st)=some (v,st')from h))
  ⟨q.1.symm,q.2.symm⟩
def ak(w:Wd)(O:aX):Prop:=∀d,eC w d (fun f args st=>O f.ad d args st)
theorem kO(w:Wd):ak w aC:=fun d F S A hA hh R m X l st s f hf args zq v st' e=>aF e
theorem kP:ah aC:=fun a d args st v st' e=>aF e
structure x7(w:Wd)(O:aX)(n:Nat):Prop where
 E:∀d,bX w d (aA O n d).ev
 T:∀d,nx w d (aA O n d).tst
 C:∀d,eC w d (aA O n d).cal
 R:∀d,wz w d (fun k=>(aA O k d).run) n
variable{E:Value→Shared→Prop}
theorem kQ{w:Wd}{O:aX}(hO:ak w O)(hP:ah O):∀n,x7 w O n:=by
 intro n
 induction n using Nat.strongRecOn with
 |ind n ih=>
  cases n with
  |zero=>
   exact⟨fun d F S R m X l st s zl e v st' he=>aF he,fun d F S R m X l st s zl e v st' he=>aF he,fun d F S A hA hh R m X l st s f hf args zq v st' e=>aF e,fun d F S R m X l st s zl ss K v st' he=>aF he⟩
  |succ n=>
   have I:=ih n (Nat.lt_succ_self n)
   have hE:∀d,bX w d (aA O (n+1) d).ev:=fun d=>xR (I.E d) (I.T d) (I.C d) (fK O n d) (gN O n d) (oS O n d)
   refine⟨hE,fun d=>wi (I.E d) (I.T d) (gN O n d),fun d=>?_,fun d=>?_⟩
   ·intro F S A hA hh R m X l st s f hf args zq v st' e
    have e:sY O (fun d=>(aA O n d).run) d f args st=some (v,st'):=e
    unfold sY at e
    cases q:O f.ad d args st with
    |some r=>
     rw [q]at e;exact hO d F S A hA hh R m X l st s f hf args zq v st' (q.trans e)
    |none=>
     rw [q]at e
     cases d with
     |zero=>exact aF e
     |succ d'=>exact rF (rn:=fun k=>(aA O k d').run) (I.R d') (fun n' cx zl st v st' h=>pj O n' d' cx zl st v st' h) (fun cx K zl st v st' h=>(wu hP n d').run cx K zl st v st' h) F S A hA hh R m X l st s f hf args zq v st' e
   ·exact tx (zy:=fun k=>aA O k d) ⟨fun _ _ _ _=>rfl,fun _=>rfl,fun k hk=>(ih k (Nat.lt_succ_of_le hk)).E d,fun k hk=>(ih k (Nat.lt_succ_of_le hk)).T d,fun k=>fK O k d,fun k=>gN O k d,fun k hk=>(ih k (Nat.lt_succ_of_le hk)).R d⟩
section
variable{l:LS}{st zz:MS}{loc2:Loc}{Q:Flow→Shared→Prop}{tl:List Stmt}
theorem ch{cx:Cx}(hcx:F.scope.names=cx)(I:∀n,x7 w O n)(S:Sit w F)(R:Room F.A d){t e:xpZ}{pos:Pos}(hok:jX t e=true)(he:(aA O n d).ev cx zl st e=some (v,zz))(ha:bL (aA O n d) cx zl zz t v=some (loc2,st2))
  (nn:Now w F.h₀ F.L m X l st s) (hl:LocR F X l zl m) (k:∀s2 m2 l2,Now w F.h₀ F.L m2 X l2 st2 s2→LocR F X l2 loc2 m2→Same s s2→wpAny (M w) F.A (execs tl F.env) Q E s2):
  wpAny (M w) F.A (execs (.Assign [t] e pos::tl) F.env) Q E s:=by
 subst hcx;refine wpAny_execs_cons ?_;obtain⟨hc,ht⟩:=mi hok;obtain⟨a1,a2⟩:=gi ha
 refine wpAny_Assign_stores ((I n).E d F S R m X l st s zl e v zz he nn hl _ _ fun v' s1 l1 n1 x1 y1 r1=>?_) (ia hc _ _ _) (fb ht a1)
 rw [eE a2]
 show wpAny (M w) F.A (assign t F.env v') _ E s1
 exact kK S R ((I n).E d) (fK O n d) ha n1 (hl.mono x1) r1 fun s2 l2 m2 n2 hl2 x2 y2=>k s2 m2 l2 n2 hl2 (y1.trans y2)
theorem G3{cx:Cx}(hcx:F.scope.names=cx)(I:∀n,x7 w O n)(S:Sit w F)(R:Room F.A d){t:xpZ}{a:List Stmt}{pos:Pos}(he:(aA O n d).tst cx zl st t=some (false,zz))
  (nn:Now w F.h₀ F.L m X l st s) (hl:LocR F X l zl m) (k:∀s2 l2,Now w F.h₀ F.L m X l2 zz s2→LocR F X l2 zl m→Same s s2→wpAny (M w) F.A (execs tl F.env) Q E s2):
  wpAny (M w) F.A (execs (.If t a [] pos::tl) F.env) Q E s:=by
 subst hcx;refine wpAny_execs_cons ?_
 refine wpAny_If ((I n).T d F S R m X l st s zl t false zz he nn hl _ _ fun s1 l1 n1 x1 y1=>?_)
 rw [if_neg (by decide)]
 exact wpAny_execs_nil (k s1 l1 n1 (hl.mono x1) y1)
theorem x8{cx:Cx}(hcx:F.scope.names=cx)(I:x7 w O n)(S:Sit w F)(R:Room F.A d){ss:List Stmt}(he:(aA O n d).run cx [.stm ss] zl st=some (v,st2))(hv:v≠ .none)
  (nn:Now w F.h₀ F.L m X l st s) (hl:LocR F X l zl m) (k:∀s2 m2 l2 v',Now w F.h₀ F.L m2 X l2 st2 s2→Same s s2→l2.VR v v'→Q (.ret v') s2):
  wpAny (M w) F.A (execs ss F.env) Q E s:=by
 subst hcx
 refine I.R d F S R m X l st s zl ss [] v st2 he nn hl Q E fun fl s1 h=>?_
 cases fl with
 |next=>
  obtain⟨n',m1,l1,loc1,zz,_,hr,_⟩:=h;exact absurd (pj O _ _ _ _ _ _ _ hr).1 hv
 |brk=>exact h.elim
 |cont=>
  obtain⟨K',hK,_⟩:=h;cases hK
 |ret v'=>
  obtain⟨m1,l1,n1,_,y,r⟩:=h;exact k s1 m1 l1 v' n1 y r
end
def c0S(tp p1 p2 p3 px py p4 p5 p6 pos pp:Pos)(j1 j2:Nat)(sc:Scope)(tl:List Stmt):List Stmt:=
 .Assign [.Name (sO "nums") tp] (.ListComp (.BinOp (.Name (sO "n") p1) .Mod (.Constant (.int 1000003) j1 p2) p3) [⟨.Name (sO "n") px,.Subscript (.Name (sO "script") py) (.Slice none (some (.Constant (.int 3) j2 p4)) none p5) p6,[],0⟩] sc pos) pp::tl
theorem je:∀{ws:List Value} {ns:List Int} (k:Nat),IntsAre ws ns→IntsAre (ws.take k) (ns.take k)
 |_,_,0,_=>.nil
 |_,_,_+1,.nil=>.nil
 |_,_,k+1,.cons n t h=>.cons n t (je k h)
theorem fc{as:List Addr}{ks:List (Bool×Int)}{im:List (Addr×Obj)}{f:Int→Int}:∀{ns:List Int} {ys:List Value},CarriedAll ys (ns.map fun i=>PyData.int (f i))→VRs as ks im (ns.map fun i=>.int (f i)) ys
 |[],_,h=>by cases h;exact .nil
 |n::ns,_,h=>by
  cases h with
  |cons c cs=>cases c;exact .cons (.int _ _) (fc cs)
section
variable{l:LS}{st:MS}{Q:Flow→Shared→Prop}
theorem Now.addM(n:Now w F.h₀ F.L m X l st s)(S:Sit w F){a:Addr}{o:Obj}{h':Heap}{t:Nat}{mo:MO}{m':Str→Option Value}(F':Fr F.h₀ F.L h' m')(N':News F.h₀ F.L h' ((a,o)::(l.RL++(l.im++X))))(ne:∀p ∈ l.RL++(l.im++X),p.1≠a)
  (hO:OR w.params (l.as++[a]) l.ks l.im mo o) (hp:mo.plain=true):Now w F.h₀ F.L m' X (l.add a o) (psh st mo) {s with heap:=h',toks:=t} where
 F:=F'
 N:=fun p hp=>by
  refine N' p ?_;have hp':p ∈ (l.RL++[(a,o)])++(l.im++X):=hp;simp only [yoZ,yhZ,ygZ,or_false]at hp' ⊢;rcases hp' with (h|h)|h
  ·exact .inr (.inl h)
  ·exact .inl h
  ·exact .inr (.inr h)
 H:=n.H.snoc (fun hm=>by obtain⟨p,hp,e⟩:=List.mem_map.mp hm;exact ne p (mlZ _ hp) e) hO hp _ _
 ap:=fun p hp q hq=>by
  have hq':q ∈ l.RL++[(a,o)]:=hq;rcases maZ hq' with h|h
  ·exact n.ap p hp q h
  ·cases msZ h;exact ne p (mrZ _ (mrZ _ hp))
 sm:=fun q hq=>by
  have hq':q ∈ l.RL++[(a,o)]:=hq;rcases maZ hq' with h|h
  ·exact n.sm q h
  ·cases msZ h;exact S.mods (N' _ (.head _)).2.2
 bq:=fun i ob h1 h2=>by
  obtain⟨g1,g2⟩:=n.bq i ob h1 h2;refine⟨?_,?_⟩
  ·show (st.H++[mo])[i]? =_
   rw [yaZ (ybZ.mp g1).1];exact g1
  ·show Fits _ (l.RL++[(a,o)])[i]?
   rw [yaZ g2.lt];exact g2
 oq:=n.oq
theorem QL(S:Sit w F)(n:Now w F.h₀ F.L m X l st s){tp p1 p2 p3 px py p4 p5 p6 pos pp:Pos}{j1 j2:Nat}{sc:Scope}{tl:List Stmt}(e6:tp.line=pos.line)(hk:sc.kind=.function)(e9:(sc.names.all fun p=> !(sq p.1 (sO "nums")))=true)(e7:iQ F.scope.names [] (sO "n") sc.names=true)
  (h1:F.scope.names.lookup (sO "script")=some .local) (h2:F.scope.names.lookup (sO "nums")=some .local)
  {sa:Addr} {ws:List Value} {ns:List Int} (hm:m (sO "script")=some (.ref sa)) (hT:F.h₀.IsList sa ws.toArray) (hI:IntsAre ws ns) (hz:ns.length≤63)
  (k:∀s2 m2 l2,Now w F.h₀ F.L m2 X l2 (psh st (.list ((ns.take 3).map fun i=>.int (i % 1000003)))) s2→LocR F X l2 [(sO "nums",.ref st.H.length)] m2→Same s s2→wpAny (M w) F.A (execs tl F.env) Q E s2):
  wpAny (M w) F.A (execs (c0S tp p1 p2 p3 px py p4 p5 p6 pos pp j1 j2 sc tl) F.env) Q E s:=by
 have C:=gJ (F:=F) (zl:=[]) e7
 have hl0:LocR F X l [] m:=fun y v e=>by cases e
 obtain⟨cl,hcl⟩:=C.clos hl0;have zr:ws.length=ns.length:=hI.length;refine wpAny_execs_cons ?_
 refine Assign_ListComp_DCn (K:=.int) (pz:=fun _=>true) (d:=fun i:Int=>.int (i % 1000003)) (h₀:=F.h₀) (L:=F.L) (m:=m) ?_ rfl S.hd hcl C.nc hk C.nl C.hx h2 (by show (F.scope.kind==.class || (F.scope.kind==.module && _))=false;rw [S.kind];rfl)
  (Subscript_ (nameX_L n.F hm ?_ S.kind h1 (by decide))) (fun _=>rfl)
 ·show pure _=pure true
  refine congrArg pure ?_
  have a1:(F.env.blockKind==.function)=true:=by
   show ((if F.scope.kind.isAnnotationScope then ScopeKind.function else F.scope.kind)==.function)=true
   rw [S.kind];rfl
  have a2:(F.env.kindOf (sO "nums")==some .local)=true:=by
   have:F.env.kindOf (sO "nums")=some .local:=h2;rw [this];rfl
  have a3:(tp.line==pos.line)=true:=beq_iff_eq.mpr e6
  have a4:(sc.names.any fun (n,k)=>n==sO "nums" && (k==.local || k==.cell))=false:=by
   refine List.any_eq_false.mpr fun p hp h=>?_
   have z:=ykZ.mp e9 p hp;have q:=eq_of_beq (abZ h).1;rw [q,sq_iff.mpr rfl]at z;cases z
  show (F.env.blockKind==.function && F.env.kindOf (sO "nums")==some .local && tp.line==pos.line && !(sc.names.any fun (n,k)=>n==sO "nums" && (k==.local || k==.cell)))=true
  rw [a1,a2,a3,a4];rfl
 ·refine wpAny_Slice ?_;rw [evalPart_none,evalPart_some];refine wpAny_pure (wpAny_Constant_int (wpAny_pure ?_))
  have hTs:s.heap.IsList sa ws.toArray:=let ⟨o,a,b,c⟩:=hT;⟨o,n.F.keep _ _ a,b,c⟩
  let so:Obj:={cls:=.type "slice",data:=.fields #[.none,.int 3 s.toks,.none]}
  refine tail_any (T:="list") (Heap.IsList.typeIs (s:={s with heap:=s.heap.push so,toks:=s.toks+1}) (hTs.push _)) slot_list_getitem.lookup
   (wpAny_getItem_list_slice (hTs.push _) (Heap.IsSliceOf.new ..) .none (.int _ _) .none (by simp) ?_ (by simp only [ymZ];rw [sizeLine_eq];lia)) rfl
  have e:slicePick ws.toArray none (some (3:Int)) none=(ws.take 3).toArray:=slicePick_upto' ws.toArray 3;rw [e]
  let lo:Obj:={cls:=.type "list",data:=.seq (ws.take 3).toArray}
  have kp:∀b o,s.heap.get? b=some o→((s.heap.push so).push lo).get? b=some o:=fun b o e=>Heap.get?_push_of_some _ (Heap.get?_push_of_some _ e)
  have n1:=n.kept (h':=(s.heap.push so).push lo) (t:=s.toks+1) kp;refine⟨l.RL++(l.im++X),(s.heap.push so).objs.size,ws.take 3,ns.take 3,rfl,⟨lo,Heap.get?_push_size _ rfl,rfl,_,rfl⟩,(je 3 hI).areOf,?_,n1.F,n1.N,?_,?_,?_⟩
  ·rw [sizeLine_eq,yeZ];lia
  ·intro C' a v s₂ m₂ E' _ ha hav hn hm hh;rw [List.forIn_nil]
   exact wpAny_pure ⟨rfl,_,_,rfl,fun _ _ e=>e⟩
  ·intro C' a v s₂ m₂ E' _ ha hav hp hn hm hh;obtain⟨t,rfl⟩:=hav
   refine wpAny_BinOp (wpAny_Name (wpAny_loadName_local (by exact hk) (by exact lookup_relabel_local C.hx) hn hm (wpAny_Constant_int (mod_int' (by lia) ?_))) C.hd)
   rw [Int.fmod_eq_emod_of_nonneg _ (by lia)]
   exact⟨.int _ _,_,_,rfl,fun _ _ e=>e⟩
  ·intro D ys h' tk F' N' h0 hL hP hC;obtain⟨⟨c',hD⟩,hne⟩:=hP
   have NN:News F.h₀ F.L h' ((D,listOf ys.toArray c')::(l.RL++(l.im++X))):=fun p hp=>by
    rcases mcZ hp with rfl|hp
    ·exact⟨hD,NewPlain.ne_locals ⟨⟨c',hD⟩,hne⟩ F',h0⟩
    ·exact N' p hp
   have hf:((ns.take 3).filter fun _=>true)=ns.take 3:=List.filter_eq_self.mpr fun _ _=>rfl
   rw [hf]at hC;have hrel:=fc (as:=l.as) (ks:=l.ks) (im:=l.im) hC
   have nn:=n1.addM (t:=tk) (mo:=.list ((ns.take 3).map fun i=>.int (i % 1000003))) S F' NN hne (.list (hrel.mono (paZ _ _) prZ fun _ h=>h) (by rw [List.length_map,yeZ];lia)) rfl
   refine k _ _ _ nn ?_ Same.mk';intro z v hz' hi;rw [ylZ]at hz';split at hz'
   ·rename_i q;cases hz';have:=eq_of_beq q;subst this;exact⟨_,n1.newRef _ _,.inl ⟨h2,if_pos rfl⟩⟩
   ·cases hz'
end
mutual
noncomputable def gv(k:Nat):MV→MV
 | .ref i=>match Nat.blt i k with
  |true=>.ref i
  |false=>.anyv
 | .kd _=>.anyv
 | .op _=>.anyv
 | .tup vs=>.tup (ci k vs)
 | .none=>.none
 | .bool b=>.bool b
 | .int i=>.int i
 | .str s=>.str s
 | .anyv=>.anyv
 | .top a=>.top a
noncomputable def ci(k:Nat):List MV→List MV
 |[]=>[]
 |v::r=>gv k v::ci k r
end
def rN(k:Nat):List (Str×MV)→List (Str×MV)
 |[]=>[]
 |p::r=>(p.1,gv k p.2)::rN k r
def cu(k:Nat):MO→MO
 | .list vs=>.list (ci k vs)
 | .dict _=>.any
 | .inst c d=>match Nat.blt d k with
  |true=>.inst c d
  |false=>.any
 | .idict c es=>.idict c (rN k es)
 | .any=>.any
 | .ktb=>.ktb
def b9:Nat→Nat→List MO→List MO
 |_,0,_=>[]
 |_,_+1,[]=>[]
 |k,j+1,o::r=>cu k o::b9 k j r
theorem cj(k:Nat):∀(j:Nat) (H:List MO),b9 k j H=(H.take j).map (cu k)
 |0,_=>rfl
 |j+1,[]=>rfl
 |j+1,o::r=>congrArg (cu k o::·) (cj k j r)
theorem eR(k:Nat):∀vs,(ci k vs).length=vs.length
 |[]=>rfl
 |v::r=>congrArg Nat.succ (eR k r)
theorem mj(k:Nat):∀es,(rN k es).length=es.length
 |[]=>rfl
 |v::r=>congrArg Nat.succ (mj k r)
section
variable{k:Nat}
theorem blt_iff{i k:Nat}:Nat.blt i k=true ↔ i < k:=⟨fun h=>lbZ h,fun h=>blZ h⟩
theorem ty{i:Nat}{a:Addr}(h:as[i]? =some a):VR (as.take k) ks' im (gv k (.ref i)) (.ref a):=by
 show VR _ _ _ (match Nat.blt i k with|true=>.ref i|false=>.anyv) _
 cases hb:Nat.blt i k with
 |true=>exact .ref ((ycZ (blt_iff.mp hb)).trans h)
 |false=>exact .anyv rfl
theorem cutS:(∀v w,VR as ks im v w→VR (as.take k) ks' im (gv k v) w)∧∀v w,VRs as ks im v w→VRs (as.take k) ks' im (ci k v) w:=
 have A:=@VR.rec as ks im (fun v w _=>VR (as.take k) ks' im (gv k v) w) (fun v w _=>VRs (as.take k) ks' im (ci k v) w) .none .bool .int .str (fun _ _=>.anyv rfl) (fun _ _=>.anyv rfl) .anyv .top ty (fun h _ hl ih=>.tup h ih (leZ (Nat.le_of_eq (eR k _)) hl)) .nil (fun _ _ a b=>.cons a b)
 have B:=@VRs.rec as ks im (fun v w _=>VR (as.take k) ks' im (gv k v) w) (fun v w _=>VRs (as.take k) ks' im (ci k v) w) .none .bool .int .str (fun _ _=>.anyv rfl) (fun _ _=>.anyv rfl) .anyv .top ty (fun h _ hl ih=>.tup h ih (leZ (Nat.le_of_eq (eR k _)) hl)) .nil (fun _ _ a b=>.cons a b)
 ⟨fun _ _ h=>A h,fun _ _ h=>B h⟩
theorem VR.cut{v:MV}{w:Value}(h:VR as ks im v w):VR (as.take k) ks' im (gv k v) w:=cutS.1 _ _ h
theorem VRs.cut{v:List MV}{w:List Value}(h:VRs as ks im v w):VRs (as.take k) ks' im (ci k v) w:=cutS.2 _ _ h
theorem Ents.cut{es:List (Str×MV)}{ds:List DictEntry}(h:Ents P as ks im es ds):Ents P (as.take k) ks' im (rN k es) ds:=by
 induction h with
 |nil=>exact .nil
 |cons h _ ih=>exact .cons h.cut ih
theorem jf{k:Nat}{p:Str×MV}:∀{es:List (Str×MV)},p ∈ rN k es→∃q ∈ es,q.1=p.1
 |[],h=>nomatch h
 |e::r,h=>by
  rcases mcZ (show p ∈ (e.1,gv k e.2)::rN k r from h)with rfl|h
  ·exact⟨e,.head _,rfl⟩
  ·obtain⟨q,h1,h2⟩:=jf h;exact⟨q,.tail _ h1,h2⟩
theorem OR.cut(w:Wd){o:MO}{b:Obj}(h:OR P as ks im o b):OR P (as.take k) ks' im (cu k o) b:=by
 cases h with
 |list h hl=>exact .list h.cut (leZ (Nat.le_of_eq (eR k _)) hl)
 |@inst c d a h=>
  show OR P (as.take k) ks' im (match Nat.blt d k with|true=>.inst c d|false=>.any) _
  cases hb:Nat.blt d k with
  |true=>exact .inst ((ycZ (blt_iff.mp hb)).trans h)
  |false=>exact .any (OR.notTup (P:=P) w (OR.inst (ks:=ks) (im:=im) h))
 |idict h hf hl=>exact .idict h.cut (fun p hp=>let ⟨q,h1,h2⟩:=jf hp;h2 ▸hf q h1) (leZ (Nat.le_of_eq (mj k _)) hl)
 |ndict h hl ho=>exact .any (OR.notTup (P:=P) w (OR.ndict h hl ho))
 |hdict h hl hc hd hds hn=>exact .any (OR.notTup (P:=P) w (OR.hdict h hl hc hd hds hn))
 |any h=>exact .any h
 |ktb=>exact .ktb
theorem ORs.cut(w:Wd){os:List MO}{ps:List (Addr×Obj)}(h:ORs P as ks im os ps):ORs P (as.take k) ks' im (os.map (cu k)) ps:=by
 induction h with
 |nil=>exact .nil
 |cons h _ ih=>exact .cons (h.cut w) ih
inductive Pl:MV→Prop
 |int (i:Int):Pl (.int i)
 |ref (i:Nat):Pl (.ref i)
 |tup {vs:List MV} (h:∀v ∈ vs,Pl v):Pl (.tup vs)
 |anyv:Pl .anyv
theorem Pl.tupI{vs:List MV}(h:Pl (.tup vs)):∀v ∈ vs,Pl v:=match h with
 | .tup h=>h
theorem Pl.noK{n:Nat}{C:Prop}(h:Pl (.kd n)):C:=nomatch h
theorem Pl.noO{n:Nat}{C:Prop}(h:Pl (.op n)):C:=nomatch h
theorem reksS:(∀v w,VR as ks im v w→Pl v→VR as ks' im v w)∧∀v w,VRs as ks im v w→(∀x ∈ v,Pl x)→VRs as ks' im v w:=
 have A:=@VR.rec as ks im (fun v w _=>Pl v→VR as ks' im v w) (fun v w _=>(∀x ∈ v,Pl x)→VRs as ks' im v w) (fun _=>.none) (fun b _=>.bool b) (fun i t _=>.int i t) (fun x t _=>.str x t) (fun _ _ p=>p.noK) (fun _ _ p=>p.noO) (fun h _=>.anyv h) (fun a _=>.top a) (fun h _=>.ref h) (fun h _ hl ih p=>.tup h (ih p.tupI) hl) (fun _=>.nil) (fun _ _ a b p=>.cons (a (p _ (.head _))) (b fun x hx=>p x (.tail _ hx)))
 have B:=@VRs.rec as ks im (fun v w _=>Pl v→VR as ks' im v w) (fun v w _=>(∀x ∈ v,Pl x)→VRs as ks' im v w) (fun _=>.none) (fun b _=>.bool b) (fun i t _=>.int i t) (fun x t _=>.str x t) (fun _ _ p=>p.noK) (fun _ _ p=>p.noO) (fun h _=>.anyv h) (fun a _=>.top a) (fun h _=>.ref h) (fun h _ hl ih p=>.tup h (ih p.tupI) hl) (fun _=>.nil) (fun _ _ a b p=>.cons (a (p _ (.head _))) (b fun x hx=>p x (.tail _ hx)))
 ⟨fun _ _ h=>A h,fun _ _ h=>B h⟩
theorem VR.reks{v:MV}{w:Value}(h:VR as ks im v w)(p:Pl v):VR as ks' im v w:=reksS.1 _ _ h p
theorem VRs.reks{v:List MV}{w:List Value}(h:VRs as ks im v w)(p:∀x ∈ v,Pl x):VRs as ks' im v w:=reksS.2 _ _ h p
theorem Ents.reks{es:List (Str×MV)}{ds:List DictEntry}(h:Ents P as ks im es ds):(∀p ∈ es,Pl p.2)→Ents P as ks' im es ds:=by
 induction h with
 |nil=>exact fun _=>.nil
 |cons h _ ih=>exact fun p=>.cons (h.reks (p _ (.head _))) (ih fun x hx=>p x (.tail _ hx))
theorem gO{v:MV}{i:Int}(p:Pl v)(h:bn ks v=some i):bn ks' v=some i:=by
 cases v <;>first|exact h|exact p.noK
theorem rO{v:MV}{x:RK}(p:Pl v)(h:dC ks v=some x):dC ks' v=some x:=by
 rcases gD h with⟨a,h1,rfl⟩|⟨vs,a,rfl,h1,rfl⟩
 ·exact kA (gO p h1)
 ·exact kB (fX (fun v hv _=>gO (p.tupI v hv)) h1)
theorem rP{v:MV}{x:List RK}(p:Pl v)(h:ee ks v=some x):ee ks' v=some x:=by
 cases v <;>first|exact fY (fun v hv _=>rO (p.tupI v hv)) h|exact aF h
theorem KVs.reks{es:List (MV×MV)}{ds:List (Int×Value)}(h:KVs as ks im es ds):(∀p ∈ es,Pl p.1∧Pl p.2)→KVs as ks' im es ds:=by
 induction h with
 |nil=>exact fun _=>.nil
 |cons hk h _ ih=>exact fun p=>.cons (gO (p _ (.head _)).1 hk) (h.reks (p _ (.head _)).2) (ih fun x hx=>p x (.tail _ hx))
theorem HVs.reks{es:List (MV×MV)}{ds:List (List RK×Addr×Value)}(h:HVs as ks im es ds):(∀p ∈ es,Pl p.1∧Pl p.2)→HVs as ks' im es ds:=by
 induction h with
 |nil=>exact fun _=>.nil
 |cons hk hka h _ ih=>exact fun p=>.cons (rP (p _ (.head _)).1 hk) (hka.reks (p _ (.head _)).1) (h.reks (p _ (.head _)).2) (ih fun x hx=>p x (.tail _ hx))
noncomputable def JV:MO→Prop
 | .list vs=>∀v ∈ vs,Pl v
 | .dict es=>∀p ∈ es,Pl p.1∧Pl p.2
 | .idict _ es=>∀p ∈ es,Pl p.2
 |_=>True
theorem OR.reks{o:MO}{b:Obj}(h:OR P as ks im o b)(p:JV o):OR P as ks' im o b:=by
 cases h with
 |list h hl=>exact .list (h.reks p) hl
 |inst h=>exact .inst h
 |idict h hf hl=>exact .idict (h.reks p) hf hl
 |ndict h hl ho=>exact .ndict (h.reks p) hl ho
 |hdict h hl hc hd hds hn=>exact .hdict (h.reks p) hl hc hd hds hn
 |any h=>exact .any h
 |ktb=>exact .ktb
theorem ORs.reks{os:List MO}{ps:List (Addr×Obj)}(h:ORs P as ks im os ps):(∀o ∈ os,JV o)→ORs P as ks' im os ps:=by
 induction h with
 |nil=>exact fun _=>.nil
 |cons h _ ih=>exact fun p=>.cons (h.reks (p _ (.head _))) (ih fun o ho=>p o (.tail _ ho))
def JW:Nat→MV→Bool
 |0,_=>false
 |k+1,v=>match v with
  | .int _=>true
  | .tup vs=>match vs with
   |[]=>true
   |x::xs=>an (JW k x) (JW k (.tup xs))
  |_=>false
theorem oT:∀(k:Nat) (v:MV),JW k v=true→Pl v:=by
 intro k
 induction k with
 |zero=>exact fun v h=>cM h
 |succ k ih=>
  intro v h
  cases v with
  |int i=>exact .int i
  |tup vs=>cases vs with
   |nil=>exact .tup fun _ h=>nomatch h
   |cons x xs=>exact .tup (fcZ ⟨ih x (cO h).1,(ih _ (cO h).2).tupI⟩)
  |_=>exact cM h
theorem G4{r:MV}(h:mF r):Pl r:=match h with
 | .two _ _=>oT 9 _ rfl
 | .box _=>oT 9 _ rfl
theorem x9{vs:List MV}(h:JW 99 (.tup vs)=true):∀v ∈ vs,Pl v:=(oT _ _ h).tupI
theorem kR(l:List Int):∀v ∈ l.map MV.int,Pl v:=List.forall_mem_map.mpr fun i _=>.int i
theorem kS{a b:List MV}(h:∀v ∈ a,Pl v)(k:∀v ∈ b,Pl v):∀v ∈ a++b,Pl v:=fun v hv=>(maZ hv).elim (h v) (k v)
theorem tz:∀(k:Nat) {l:List MV},(∀v ∈ l,Pl v)→∀p ∈ eQ k l,Pl p.1∧Pl p.2
 |k,[],_,p,h=>nomatch h
 |k,r::rs,a,p,h=>by
  cases h with
  |head=>exact⟨a _ (.head _),.int _⟩
  |tail _ h=>exact tz (k+1) (fun v hv=>a v (.tail _ hv)) p h
theorem pk{i:Nat}{E:List MV}{D W O:List Int}(hE:∀r ∈ E,mF r):∀o ∈ bH i E D W O,JV o:=by
 have hr:∀v ∈ rows0++E,Pl v:=kS (x9 (by decide+kernel)) fun v h=>G4 (hE v h)
 exact fcZ ⟨trivial,fcZ ⟨List.forall_mem_map.mpr fun _ _=>.ref _,fcZ ⟨hr,fcZ ⟨tz 0 hr,
  fcZ ⟨kS (x9 (by decide+kernel)) (kR D),fcZ ⟨kS (x9 (by decide+kernel)) (kR W),fcZ ⟨kS (x9 (by decide+kernel)) (kR O),fun _ h=>nomatch h⟩⟩⟩⟩⟩⟩⟩
theorem ORs.of_get:∀{H:List MO} {L:List (Addr×Obj)},H.length=L.length→(∀(i:Nat) (o:MO) (p:Addr×Obj),H[i]? =some o→L[i]? =some p→OR P as ks im o p.2)→ORs P as ks im H L
 |[],[],_,_=>.nil
 |[],_::_,h,_=>nomatch h
 |_::_,[],h,_=>nomatch h
 |o::H,p::L,h,g=>.cons (g 0 o p rfl rfl) (ORs.of_get (Nat.succ.inj h) fun i o p h1 h2=>g (i+1) o p h1 h2)
end
structure IsView(w w':Wd)(k:Nat)(l:LS)(st:MS)(dyn':List MV)(ks':List (Bool×Int)):Prop where
 ww:w'.w=w.w
 B:w'.B=(b9 k k st.H).zip (l.RL.take k)
 le:k≤st.H.length
 op:∀(n:Nat) (i:Int),w'.op[n]? =some i→ks'[n]? =some (false,i)
 kn:KN ks'
 kb:KB ks'
 kt:∀i,i < k→st.H[i]? =some .ktb→i+7≤k
 pl:∀i o,i < k→st.H[i]? =some o→(cu k o).plain=o.plain
 tin:∀E D W O,TabE w.rows st.dyn l.ks E D W O→TabE w'.rows dyn' ks' E D W O
 tout:∀E D W O,TabE w'.rows dyn' ks' E D W O→TabE w.rows st.dyn l.ks E D W O
section
variable{l:LS}{st:MS}{s2:Shared}{k:Nat}
theorem IsView.params(V:IsView w w' k l st dyn' ks'):w'.params=w.params:=by unfold Wd.params;rw [V.ww]
theorem ib{k:Nat}{o:MO}(h:cu k o=.ktb):o=.ktb:=by
 cases o with
 |inst c d=>
  have h:(match Nat.blt d k with|true=>MO.inst c d|false=>.any)=.ktb:=h
  split at h <;>cases h
 |ktb=>rfl
 |_=>cases h
theorem eF{k:Nat}{H:List MO}{i:Nat}(hi:i < k):(b9 k k H)[i]? =(H[i]?).map (cu k):=by
 rw [cj,ydZ,ycZ hi]
theorem dH{k:Nat}{H:List MO}(h:k≤H.length):(b9 k k H).length=k:=by rw [cj,List.length_map,yeZ];lia
theorem fe{α β:Type}:∀{as:List α} {bs:List β} {i:Nat} {p:α×β},(as.zip bs)[i]? =some p→as[i]? =some p.1∧bs[i]? =some p.2
 |[],bs,i,p,h=>by simp at h
 |a::as,[],i,p,h=>by simp at h
 |a::as,b::bs,0,p,h=>by simp at h;subst h;exact⟨rfl,rfl⟩
 |a::as,b::bs,i+1,p,h=>by
  have:=fe (as:=as) (bs:=bs) (i:=i) (p:=p) (by simpa using h)
  simpa using this
theorem pn{α β:Type}:∀{as:List α} {bs:List β} {i:Nat} {a:α} {b:β},as[i]? =some a→bs[i]? =some b→(as.zip bs)[i]? =some (a,b)
 |[],bs,i,_,_,h,_=>by simp at h
 |a::as,[],i,_,_,_,h=>by simp at h
 |a::as,b::bs,0,_,_,h,h'=>by simp at h h' ⊢;exact⟨h,h'⟩
 |a::as,b::bs,i+1,_,_,h,h'=>by
  have:=pn (as:=as) (bs:=bs) (i:=i) (by simpa using h) (by simpa using h')
  simpa using this
theorem eG{α:Type}[DecidableEq α]{l:List α}(h:l.Nodup)(k:Nat){x y:α}(hx:x ∈ l.take k)(hy:y ∈ l.drop k):x≠y:=by
 have:(l.take k++l.drop k).Nodup:=by rw [yrZ];exact h
 exact (List.nodup_append.mp this).2.2 x hx y hy
theorem Now.view(n:Now w h₀ L m X l st s)(V:IsView w w' k l st dyn' ks'):Now w' h₀ L m (X++l.RL.drop k) ⟨l.RL.take k,l.im,ks'⟩ ⟨b9 k k st.H,dyn',aD,aD⟩ s where
 F:=n.F
 N:=fun p hp=>by
  refine n.N p ?_;have hp':p ∈ l.RL.take k++(l.im++(X++l.RL.drop k)):=hp;simp only [yoZ]at hp' ⊢;rcases hp' with h|h|h|h
  ·exact .inl (mtZ h)
  ·exact .inr (.inl h)
  ·exact .inr (.inr h)
  ·exact .inl (List.mem_of_mem_drop h)
 H:=by
  have ea:(⟨l.RL.take k,l.im,ks'⟩:LS).as=l.as.take k:=by show (l.RL.take k).map (·.1)=(l.RL.map (·.1)).take k;rw [yqZ]
  refine⟨?_,?_,n.H.imt,V.kn,V.kb,fun i hi=>?_⟩
  ·rw [ea,V.params]
   show ORs w.params (l.as.take k) ks' l.im (b9 k k st.H) (l.RL.take k)
   rw [cj];exact (n.H.obj.take k).cut w
  ·rw [ea];exact n.H.nd.sublist (List.take_sublist _ _)
  ·have hi:(b9 k k st.H)[i]? =some .ktb:=hi
   have hik:i < k:=by rw [←dH V.le];exact (ybZ.mp hi).1
   rw [eF hik]at hi;obtain⟨o,h1,h2⟩:=ysZ.mp hi;have h2:=ib h2;subst h2;have h7:=V.kt i hik h1;obtain⟨⟨E,D,W,O,t1,t2⟩,U⟩:=n.H.tab i h1
   refine⟨⟨E,D,W,O,⟨V.tin _ _ _ _ t1.1,t1.2⟩,?_⟩,fun j h1 h2=>?_⟩
   ·rw [ea,V.params]
    show ORs w.params (l.as.take k) ks' l.im (bH i E D W O) (((l.RL.take k).drop i).take 7)
    have e2:((l.RL.take k).drop i).take 7=(l.RL.drop i).take 7:=by
     rw [List.drop_take,List.take_take]
     congr 1
     lia
    rw [e2]
    have hl:(l.as.take k).length=k:=by rw [yeZ,n.H.len];have:=V.le;lia
    exact (t2.shrink (List.take_prefix k l.as) (kI (by rw [hl];lia) fun r hr=>(t1.1.ok r hr).1)).reks (pk fun r hr=>(t1.1.ok r hr).1)
   ·show (b9 k k st.H)[i+j]? =_
    rw [eF (by lia),U j h1 h2];rfl
 ap:=fun p hp q hq=>by
  have hq:q ∈ l.RL.take k:=hq;rcases maZ hp with h|h
  ·exact n.ap p h q (mtZ hq)
  ·have z:=eG n.H.nd k (x:=q.1) (y:=p.1) (by show q.1 ∈ (l.RL.map (·.1)).take k;rw [←yqZ];exact List.mem_map_of_mem hq) (by show p.1 ∈ (l.RL.map (·.1)).drop k;rw [←List.map_drop];exact List.mem_map_of_mem h)
   exact Ne.symm z
 sm:=fun p hp=>n.sm p (mtZ hp)
 bq:=fun i o _ h2=>by
  rw [V.B]at h2;obtain⟨g1,g2⟩:=fe h2
  exact⟨g1,o.2.2,g2,fun _=>rfl⟩
 oq:=V.op
theorem uA{α:Type}{A D:List α}{k i:Nat}(hk:k≤A.length)(hi:i+7≤k):((A.take k++D).drop i).take 7=(A.drop i).take 7:=by
 rw [List.drop_append_of_le_length (by rw [yeZ];lia),List.take_append_of_le_length (by rw [List.length_drop,yeZ];lia),List.drop_take,List.take_take,Nat.min_eq_left (by lia)]
theorem uB{α:Type}{A B:List α}{k i:Nat}(hk:k≤A.length)(hi:k≤i):((A.take k++B.drop k).drop i).take 7=(B.drop i).take 7:=by
 rw [List.drop_append,List.drop_eq_nil_of_le (by rw [yeZ];lia),yeZ,Nat.min_eq_left hk,List.drop_drop,List.nil_append,Nat.add_sub_cancel' hi]
theorem uC{α:Type}{A D:List α}{k i:Nat}(hk:k≤A.length)(hi:i < k):(A.take k++D)[i]? =A[i]? :=by
 rw [yaZ (by rw [yeZ];lia),ycZ hi]
theorem uD{α:Type}{A B:List α}{k i:Nat}(hk:k≤A.length)(hi:k≤i):(A.take k++B.drop k)[i]? =B[i]? :=by
 rw [yfZ (by rw [yeZ];lia),yeZ,Nat.min_eq_left hk,List.getElem?_drop,Nat.add_sub_cancel' hi]
theorem uE{α:Type}{A B I X:List α}{k:Nat}{p:α}(h:p ∈ (A.take k++B.drop k)++(I++X)):p ∈ A++(I++(X++B.drop k)):=by
 rcases maZ h with h|h
 ·rcases maZ h with h|h
  ·exact mlZ _ (mtZ h)
  ·exact mrZ _ (mrZ _ (mrZ _ h))
 ·rcases maZ h with h|h
  ·exact mrZ _ (mlZ _ h)
  ·exact mrZ _ (mrZ _ (mlZ _ h))
theorem uF{α:Type}{A B:List α}{k:Nat}(h:A.take k <+:B)(hk:k≤A.length):k≤B.length∧B.take k=A.take k:=by
 have e:(A.take k).length=k:=by rw [yeZ,Nat.min_eq_left hk]
 exact⟨e ▸h.length_le,((congrArg (fun n=>B.take n) e).symm.trans (List.prefix_iff_eq_take.mp h).symm)⟩
theorem Now.backs(n:Now w h₀ L m X l st s)(V:IsView w w' k l st dyn' ks')(x:Ext ⟨l.RL.take k,l.im,ks'⟩ l2):
  l.as.take k <+:l2.as∧k≤l2.RL.length∧(l2.RL.take k++l.RL.drop k).map (·.1)=l.as∧(l.as.take k).length=k:=by
 have x0:l.as.take k <+:l2.as:=yqZ ▸x.as;have hl:k≤l.as.length:=n.H.len ▸V.le;obtain⟨h1,h2⟩:=uF x0 hl
 refine⟨x0,leZ h1 (Nat.le_of_eq (List.length_map ..)),?_,by rw [yeZ,Nat.min_eq_left hl]⟩
 rw [List.map_append,yqZ,List.map_drop]
 exact (congrArg (· ++l.as.drop k) h2).trans (yrZ ..)
theorem Now.same(n2:Now w' h₀ L m (X++l.RL.drop k) l2 st2 s2)(V:IsView w w' k l st dyn' ks'){i:Nat}{o:MO}{p:Addr×Obj}(hi:i < k)(hb:i < st2.bas)(h1:st.H[i]? =some o)(h3:l.RL[i]? =some p):
  st2.H[i]? =some (cu k o)∧∃b',l2.RL[i]? =some (p.1,b')∧(o.plain=true→b'=p.2):=by
 have hB:w'.B[i]? =some (cu k o,p):=V.B ▸pn (by rw [eF hi,h1];rfl) (by rw [ycZ hi];exact h3)
 obtain⟨g1,b',g2,g3⟩:=n2.bq i _ hb hB
 exact⟨g1,b',g2,fun hp=>g3 ((V.pl i o hi h1).trans hp)⟩
theorem OR.ktb_b{P P':Params}{as as':List Addr}{ks kz:List (Bool×Int)}{im im':List (Addr×Obj)}{b:Obj}(h:OR P as ks im .ktb b):OR P' as' kz im' .ktb b:=by
 cases h with
 |ktb=>exact .ktb
theorem uG{o:MO}:o.plain=true∨o=.any∨o=.ktb:=by
 cases o <;>first|exact .inl rfl|exact .inr (.inl rfl)|exact .inr (.inr rfl)
theorem Now.back_o(n:Now w h₀ L m X l st s)(V:IsView w w' k l st dyn' ks')(n2:Now w' h₀ L m (X++l.RL.drop k) l2 st2 s2)(x:Ext ⟨l.RL.take k,l.im,ks'⟩ l2){i:Nat}{o:MO}{p:Addr×Obj}(hi:i < k)(hb:i < st2.bas)(h1:st.H[i]? =some o)(h3:l2.RL[i]? =some p):
  OR w.params l.as l.ks l2.im o p.2:=by
 obtain⟨q,hq,hO⟩:=n.H.obj.get h1;obtain⟨z1,b',g2,g3⟩:=n2.same V hi hb h1 hq;obtain rfl:p=(q.1,b'):=oiZ (h3.symm.trans g2);rcases uG (o:=o)with hp|rfl|rfl
 ·exact (g3 hp) ▸hO.mono prZ prZ x.im
 ·obtain⟨p2,z3,z4⟩:=n2.H.obj.get z1;obtain rfl:(q.1,b')=p2:=oiZ (g2.symm.trans z3);exact .any (OR.notTup w' z4)
 ·obtain⟨p2,z3,z4⟩:=n2.H.obj.get z1;obtain rfl:(q.1,b')=p2:=oiZ (g2.symm.trans z3);exact OR.ktb_b z4
theorem Now.back(n:Now w h₀ L m X l st s)(V:IsView w w' k l st dyn' ks')(n2:Now w' h₀ L m (X++l.RL.drop k) l2 st2 s2)(x:Ext ⟨l.RL.take k,l.im,ks'⟩ l2){H':List MO}{lo ba:Nat}
  (zr:H'.length=st.H.length) (obj:∀i o p,i < k→H'[i]? =some o→l2.RL[i]? =some p→OR w.params l.as l.ks l2.im o p.2) (hhi:∀i,k≤i→H'[i]? =st.H[i]?)
  (hkt:∀i:Nat,H'[i]? =some MO.ktb→st.H[i]? =some MO.ktb∧(i < k→i < st2.bas)∧∀j,1≤j→j≤6→H'[i+j]? =st.H[i+j]?)
  (te:∀i:Nat,st.H[i]? =some MO.ktb→∀E D W O,TabE w'.rows st2.dyn l2.ks E D W O→TabE w.rows st.dyn l.ks E D W O)
  (hba:ba≤st.bas) (hb2:∀i,i < ba→H'[i]? =st.H[i]? ∧(i < k→i < st2.bas)):
  Now w h₀ L m X ⟨l2.RL.take k++l.RL.drop k,l2.im,l.ks⟩ ⟨H',st.dyn,lo,ba⟩ s2∧(⟨l2.RL.take k++l.RL.drop k,l2.im,l.ks⟩:LS).as=l.as∧k≤l2.RL.length:=by
 obtain⟨x0,h2k,ef,hla⟩:=n.backs V x
 have hel:∀q ∈ l2.RL.take k++l.RL.drop k,q ∈ l2.RL∨q ∈ l.RL:=fun q hq=>(maZ hq).imp mtZ List.mem_of_mem_drop
 refine⟨⟨n2.F,fun p hp=>n2.N p (uE hp),⟨?_,?_,n2.H.imt,n.H.kn,n.H.kb,fun i hi=>?_⟩,fun p hp q hq=>(hel q hq).elim (n2.ap p (mlZ _ hp) q) (n.ap p hp q),fun q hq=>(hel q hq).elim (n2.sm q) (n.sm q),fun i o h1 h2=>?_,n.oq⟩,ef,h2k⟩
 ·show ORs w.params ((l2.RL.take k++l.RL.drop k).map (·.1)) l.ks l2.im H' (l2.RL.take k++l.RL.drop k)
  rw [ef]
  refine ORs.of_get ?_ fun i o p h1 h3=>?_
  ·have:=V.le;rw [zr,ynZ,yeZ,List.length_drop,n.H.len',Nat.min_eq_left h2k,Nat.add_sub_cancel' (n.H.len' ▸this)]
  ·by_cases hi:i < k
   ·exact obj i o p hi h1 ((uC h2k hi).symm.trans h3)
   ·have hi:=Nat.not_lt.mp hi;obtain⟨q,hq,hO⟩:=n.H.obj.get ((hhi i hi).symm.trans h1);obtain rfl:p=q:=oiZ ((h3.symm.trans (uD h2k hi)).trans hq);exact hO.mono prZ prZ x.im
 ·show ((l2.RL.take k++l.RL.drop k).map (·.1)).Nodup
  rw [ef];exact n.H.nd
 ·obtain⟨hi',hib,hany⟩:=hkt i hi;obtain⟨T,U⟩:=n.H.tab i hi'
  refine⟨?_,fun j h1 h2=>(hany j h1 h2).trans (U j h1 h2)⟩
  show TabR w ((l2.RL.take k++l.RL.drop k).map (·.1)) l.ks l2.im (l2.RL.take k++l.RL.drop k) st.dyn i
  rw [ef]
  by_cases hik:i < k
  ·have h7:=V.kt i hik hi';obtain⟨q,hq,hO⟩:=n.H.obj.get hi';obtain⟨⟨E,D,W,O,t1,t2⟩,_⟩:=n2.H.tab i (n2.same V hik (hib hik) hi' hq).1;refine⟨E,D,W,O,⟨te i hi' _ _ _ _ t1.1,t1.2⟩,(uA (D:=l.RL.drop k) h2k h7).symm ▸?_⟩
   exact ((V.params ▸t2:ORs w.params l2.as l2.ks l2.im (bH i E D W O) ((l2.RL.drop i).take 7)).shrink x0 (kI (hla.symm ▸h7) fun r hr=>(t1.1.ok r hr).1)).reks (pk fun r hr=>(t1.1.ok r hr).1) |>.mono (List.take_prefix k l.as) prZ fun _ h=>h
  ·exact T.mono prZ x.im (uB h2k (Nat.not_lt.mp hik))
 ·obtain⟨g1,b,g2,g3⟩:=n.bq i o (llZ h1 hba) h2;obtain⟨e1,e2⟩:=hb2 i h1;refine⟨e1.trans g1,?_⟩
  show Fits o (l2.RL.take k++l.RL.drop k)[i]?
  by_cases hi:i < k
  ·obtain⟨_,b',u1,u2⟩:=n2.same V hi (e2 hi) g1 g2
   exact⟨b',(uC h2k hi).trans u1,fun hp=>(u2 hp).trans (g3 hp)⟩
  ·exact⟨b,(uD h2k (Nat.not_lt.mp hi)).trans g2,g3⟩
theorem Now.back0(n:Now w h₀ L m X l st s)(V:IsView w w' k l st dyn' ks')(n2:Now w' h₀ L m (X++l.RL.drop k) l2 st2 s2)(x:Ext ⟨l.RL.take k,l.im,ks'⟩ l2)(hb:k≤st2.bas)
  (te:∀i:Nat,st.H[i]? =some MO.ktb→∀E D W O,TabE w'.rows st2.dyn l2.ks E D W O→TabE w.rows st.dyn l.ks E D W O):
  Now w h₀ L m X ⟨l2.RL.take k++l.RL.drop k,l2.im,l.ks⟩ st s2∧(⟨l2.RL.take k++l.RL.drop k,l2.im,l.ks⟩:LS).as=l.as∧k≤l2.RL.length:=
 n.back (H':=st.H) (lo:=st.low) (ba:=st.bas) V n2 x rfl (fun i o p hi h1 h3=>n.back_o V n2 x hi (llZ hi hb) h1 h3) (fun _ _=>rfl) (fun i h=>⟨h,fun hi=>llZ hi hb,fun _ _ _=>rfl⟩) te (lrZ _) fun i _=>⟨rfl,fun hi=>llZ hi hb⟩
theorem Now.unview(n:Now w h₀ L m X l st s)(V:IsView w w' k l st dyn' ks')(n2:Now w' h₀ L m (X++l.RL.drop k) l2 st2 s2)(x:Ext ⟨l.RL.take k,l.im,ks'⟩ l2)
  (hb:k≤st2.bas) (hd:st2.dyn=dyn'):Now w h₀ L m X ⟨l2.RL.take k++l.RL.drop k,l2.im,l.ks⟩ st s2∧(⟨l2.RL.take k++l.RL.drop k,l2.im,l.ks⟩:LS).as=l.as∧k≤l2.RL.length:=
 n.back0 V n2 x hb fun i hi E D W O t=>by
  obtain⟨E0,D0,W0,O0,u1,_⟩:=(n.H.tab i hi).1;have hk2:l2.ks=ks':=(List.IsPrefix.eq_of_length x.ks ((V.tin _ _ _ _ u1.1).ln.trans (hd ▸t.ln:l2.ks.length=dyn'.length).symm)).symm;exact V.tout _ _ _ _ (hd ▸hk2 ▸t)
variable{pl:Nat}
end
inductive Pz:MV→Prop
 |none:Pz .none
 |bool (b:Bool):Pz (.bool b)
 |int (i:Int):Pz (.int i)
 |str (s:Str):Pz (.str s)
 |tup {vs:List MV} (h:∀v ∈ vs,Pz v):Pz (.tup vs)
section
theorem Pz.tupI{vs:List MV}(h:Pz (.tup vs)):∀v ∈ vs,Pz v:=match h with
 | .tup h=>h
theorem Pz.noK{n:Nat}{C:Prop}(h:Pz (.kd n)):C:=nomatch h
theorem Pz.noO{n:Nat}{C:Prop}(h:Pz (.op n)):C:=nomatch h
theorem Pz.noR{n:Nat}{C:Prop}(h:Pz (.ref n)):C:=nomatch h
theorem Pz.noT{n:Nat}{C:Prop}(h:Pz (.top n)):C:=nomatch h
theorem Pz.noA{C:Prop}(h:Pz .anyv):C:=nomatch h
theorem pzS:(∀v w,VR as ks im v w→Pz v→VR as' ks' im v w)∧∀v w,VRs as ks im v w→(∀x ∈ v,Pz x)→VRs as' ks' im v w:=
 have A:=@VR.rec as ks im (fun v w _=>Pz v→VR as' ks' im v w) (fun v w _=>(∀x ∈ v,Pz x)→VRs as' ks' im v w) (fun _=>.none) (fun b _=>.bool b) (fun i t _=>.int i t) (fun x t _=>.str x t) (fun _ _ p=>p.noK) (fun _ _ p=>p.noO) (fun _ p=>p.noA) (fun _ p=>p.noT) (fun _ p=>p.noR) (fun h _ hl ih p=>.tup h (ih p.tupI) hl) (fun _=>.nil) (fun _ _ a b p=>.cons (a (p _ (.head _))) (b fun x hx=>p x (.tail _ hx)))
 have B:=@VRs.rec as ks im (fun v w _=>Pz v→VR as' ks' im v w) (fun v w _=>(∀x ∈ v,Pz x)→VRs as' ks' im v w) (fun _=>.none) (fun b _=>.bool b) (fun i t _=>.int i t) (fun x t _=>.str x t) (fun _ _ p=>p.noK) (fun _ _ p=>p.noO) (fun _ p=>p.noA) (fun _ p=>p.noT) (fun _ p=>p.noR) (fun h _ hl ih p=>.tup h (ih p.tupI) hl) (fun _=>.nil) (fun _ _ a b p=>.cons (a (p _ (.head _))) (b fun x hx=>p x (.tail _ hx)))
 ⟨fun _ _ h=>A h,fun _ _ h=>B h⟩
theorem VR.pz{v:MV}{w:Value}(h:VR as ks im v w)(p:Pz v):VR as' ks' im v w:=pzS.1 _ _ h p
theorem VRs.pz{v:List MV}{w:List Value}(h:VRs as ks im v w)(p:∀x ∈ v,Pz x):VRs as' ks' im v w:=pzS.2 _ _ h p
theorem gP:∀(k:Nat) (v:MV),JW k v=true→Pz v:=by
 intro k
 induction k with
 |zero=>exact fun v h=>cM h
 |succ k ih=>
  intro v h
  cases v with
  |int i=>exact .int i
  |tup vs=>cases vs with
   |nil=>exact .tup fun _ h=>nomatch h
   |cons x xs=>exact .tup (fcZ ⟨ih x (cO h).1,(ih _ (cO h).2).tupI⟩)
  |_=>exact cM h
theorem uH{vs:List MV}(h:JW 99 (.tup vs)=true):∀v ∈ vs,Pz v:=(gP _ _ h).tupI
theorem kT{a b:List MV}(h:∀v ∈ a,Pz v)(k:∀v ∈ b,Pz v):∀v ∈ a++b,Pz v:=fun v hv=>(maZ hv).elim (h v) (k v)
theorem ff(l:List Int):∀v ∈ l.map MV.int,Pz v:=List.forall_mem_map.mpr fun i _=>.int i
end
section
variable{l:LS}{st:MS}{k:Nat}{b1 b2:Nat}
theorem Sit.to(S:Sit w F)(e:w'.w=w.w):Sit w' F:=by
 obtain⟨w0,B,o,r⟩:=w';cases e;exact⟨S.B,S.K,S.T,S.fr,S.hd,S.kind,S.dbg,S.gen,S.co,S.cdc⟩
theorem uI(C:eC w' d cal)(S:Sit w F)(hA:A.frames=some (F.env::F.outer))(hh:A.handled=none)(R:ge A d)(hf:dT w.params f)(n:Now w F.h₀ F.L m X l st s)(V:IsView w w' k l st dyn' ks')
  (e:cal f args' ⟨b9 k k st.H,dyn',aD,aD⟩=some (v,⟨b9 k k st.H,dyn',b1,b2⟩)) (hb:k≤b2) (ha:(⟨l.RL.take k,l.im,ks'⟩:LS).VRs args' zq) (hv:Pz v) {Q:Result→Shared→Prop}
  (hQ:∀v' s' l',Now w F.h₀ F.L m X l' st s'→Ext l l'→Same s s'→l'.VR v v'→Q (.ok (.ret v')) s'):codeAny (M w) A (.call (.ref f.ad) ⟨zq,[]⟩) Q s:=by
 have z:=C F (S.to V.ww) A hA hh R m (X++l.RL.drop k) _ _ s f (V.params ▸hf) args' zq v _ e (n.view V) ha Q fun v' s' l' n' x y r=>by
  obtain⟨n3,e3,_⟩:=n.unview V n' x hb rfl
  exact hQ v' s' _ n3 ⟨by rw [e3];exact prZ,prZ,x.im⟩ y (VR.pz r hv)
 have eM:M w'=M w:=by show model pg w'.w=model pg w.w;rw [V.ww]
 rw [eM]at z;exact z
theorem uJ{vs:List MV}(C:eC w' d cal)(S:Sit w F)(hA:A.frames=some (F.env::F.outer))(hh:A.handled=none)(R:ge A d)(hf:dT w.params f)(n:Now w F.h₀ F.L m X l st s)(V:IsView w w' k l st dyn' ks')
  (e:cal f args' ⟨b9 k k st.H,dyn',aD,aD⟩=some (.ref k,⟨b9 k k st.H++[.list vs],dyn',b1,b2⟩)) (hb:k≤b2) (ha:(⟨l.RL.take k,l.im,ks'⟩:LS).VRs args' zq) (hv:∀v ∈ vs,Pz v) {Q:Result→Shared→Prop}
  (hQ:∀v' s' l',Now w F.h₀ F.L m X l' ⟨st.H++[.list vs],st.dyn,st.low,st.bas⟩ s'→Ext l l'→Same s s'→l'.VR (.ref st.H.length) v'→Q (.ok (.ret v')) s'):codeAny (M w) A (.call (.ref f.ad) ⟨zq,[]⟩) Q s:=by
 have z:=C F (S.to V.ww) A hA hh R m (X++l.RL.drop k) _ _ s f (V.params ▸hf) args' zq _ _ e (n.view V) ha Q fun v' s' l' n' x y r=>by
  obtain⟨n3,e3,_⟩:=n.unview V n' x hb rfl;have zr:(b9 k k st.H).length=k:=dH V.le
  have hg:(b9 k k st.H++[MO.list vs])[k]? =some (.list vs):=by rw [yfZ (by lia),zr];simp
  obtain⟨p,hp,hO⟩:=n'.H.obj.get hg;obtain⟨a,o⟩:=p;have hm:(a,o) ∈ l'.RL:=moZ hp
  have hea:l'.as[k]? =some a:=by show (l'.RL.map (·.1))[k]? =_;rw [ydZ,hp];rfl
  have hna:a ∉ l.as:=by
   intro hm2;rw [←yrZ k l.as]at hm2;rcases maZ hm2 with h|h
   ·have x0:l.as.take k <+:l'.as:=by
     have:=x.as
     have ea0:(⟨l.RL.take k,l.im,ks'⟩:LS).as=l.as.take k:=by show (l.RL.take k).map (·.1)=(l.RL.map (·.1)).take k;rw [yqZ]
     rw [ea0]at this;exact this
    obtain⟨j,hj⟩:=List.mem_iff_getElem?.mp h;have hj2:=(ybZ.mp hj).1;rw [yeZ]at hj2;have:=bp n'.H.nd hea (be x0 hj)
    lia
   ·have h:a ∈ (l.RL.map (·.1)).drop k:=h
    rw [←List.map_drop]at h;obtain⟨q,h1,h2⟩:=List.mem_map.mp h;exact n'.ap q (mrZ _ h1) (a,o) hm h2
  generalize hl3:(⟨l'.RL.take k++l.RL.drop k,l'.im,l.ks⟩:LS)=l3 at n3 e3
  have hks:l3.ks=l.ks:=by rw [←hl3]
  have him:l3.im=l'.im:=by rw [←hl3]
  have hO':OR w.params (l3.as++[a]) l3.ks l3.im (.list vs) o:=by
   rw [him];have hO:OR w'.params l'.as l'.ks l'.im (.list vs) o:=hO;obtain⟨ws,ep,rfl,h,hl⟩:=hO.listI;exact .list (VRs.pz h hv) hl
  have hna3:a ∉ l3.as:=by rw [e3];exact hna
  refine hQ v' s' (l3.add a o) ⟨n3.F,fun p hp=>?_,n3.H.snoc hna3 hO' rfl _ _,fun p hp q hq=>?_,fun q hq=>?_,fun i ob h1 h2=>?_,n3.oq⟩ ⟨?_,?_,?_⟩ y ?_
  ·have hp':p ∈ (l3.RL++[(a,o)])++(l3.im++X):=hp;simp only [yoZ,yhZ,ygZ,or_false]at hp';rcases hp' with (h|h)|h|h
   ·exact n3.N p (mlZ _ h)
   ·subst h;exact n'.N _ (mlZ _ hm)
   ·exact n3.N p (mrZ _ (mlZ _ h))
   ·exact n3.N p (mrZ _ (mrZ _ h))
  ·have hq':q ∈ l3.RL++[(a,o)]:=hq;rcases maZ hq' with h|h
   ·exact n3.ap p hp q h
   ·obtain rfl:=msZ h;exact n'.ap p (mlZ _ hp) _ hm
  ·have hq':q ∈ l3.RL++[(a,o)]:=hq;rcases maZ hq' with h|h
   ·exact n3.sm q h
   ·obtain rfl:=msZ h;exact n'.sm _ hm
  ·obtain⟨g1,g2⟩:=n3.bq i ob h1 h2;refine⟨?_,?_⟩
   ·show (st.H++[MO.list vs])[i]? =_
    rw [yaZ (ybZ.mp g1).1];exact g1
   ·show Fits _ (l3.RL++[(a,o)])[i]?
    rw [yaZ g2.lt];exact g2
  ·rw [LS.as_add,e3];exact paZ _ _
  ·show l.ks <+:l3.ks
   rw [hks];exact prZ
  ·show ∀p ∈ l.im,p ∈ l3.im
   rw [him];exact x.im
  ·have r:VR l'.as l'.ks l'.im (.ref k) v':=r;obtain⟨a',rfl,h⟩:=r.refI;obtain rfl:=oiZ (hea.symm.trans h);refine .ref ?_;rw [LS.as_add,e3,←n.H.len];exact List.getElem?_concat_length ..
 have eM:M w'=M w:=by show model pg w'.w=model pg w.w;rw [V.ww]
 rw [eM]at z;exact z
end
section
theorem kU{v:MV}{i:Int}(p:Pz v)(h:bn ks v=some i):bn ks' v=some i:=by
 cases v <;>first|exact h|exact p.noK
theorem xa{v:MV}{x:RK}(p:Pz v)(h:dC ks v=some x):dC ks' v=some x:=by
 rcases gD h with⟨a,h1,rfl⟩|⟨vs,a,rfl,h1,rfl⟩
 ·exact kA (kU p h1)
 ·exact kB (fX (fun v hv _=>kU (p.tupI v hv)) h1)
theorem xb{v:MV}{x:List RK}(p:Pz v)(h:ee ks v=some x):ee ks' v=some x:=by
 cases v <;>first|exact fY (fun v hv _=>xa (p.tupI v hv)) h|exact aF h
theorem KVs.pz{es:List (MV×MV)}{ds:List (Int×Value)}(h:KVs as ks im es ds):(∀p ∈ es,Pz p.1∧Pz p.2)→KVs as' ks' im es ds:=by
 induction h with
 |nil=>exact fun _=>.nil
 |cons hk h _ ih=>exact fun p=>.cons (kU (p _ (.head _)).1 hk) (h.pz (p _ (.head _)).2) (ih fun x hx=>p x (.tail _ hx))
theorem HVs.pz{es:List (MV×MV)}{ds:List (List RK×Addr×Value)}(h:HVs as ks im es ds):(∀p ∈ es,Pz p.1∧Pz p.2)→HVs as' ks' im es ds:=by
 induction h with
 |nil=>exact fun _=>.nil
 |cons hk hka h _ ih=>exact fun p=>.cons (xb (p _ (.head _)).1 hk) (hka.pz (p _ (.head _)).1) (h.pz (p _ (.head _)).2) (ih fun x hx=>p x (.tail _ hx))
theorem uK{r:MV}(h:mF r):Pz r:=match h with
 | .two _ _=>gP 9 _ rfl
 | .box _=>gP 9 _ rfl
theorem uL:∀(k:Nat) {l:List MV},(∀v ∈ l,Pz v)→∀p ∈ eQ k l,Pz p.1∧Pz p.2
 |k,[],_=>fun _ h=>nomatch h
 |k,r::rs,h=>fcZ ⟨⟨h _ (.head _),.int _⟩,uL (k+1) fun v hv=>h v (.tail _ hv)⟩
noncomputable def EI(P:Params)(as:List Addr)(ks:List (Bool×Int))(im:List (Addr×Obj))(l:List (Str×MV))(ds:List DictEntry):Prop:=match l with
 |[]=>ds=[]
 |p::es=>∃w t r,ds=⟨PyData.keyHash P p.1,.str p.1 t,w⟩::r∧VR as ks im p.2 w∧Ents P as ks im es r
theorem Ents.inv{l:List (Str×MV)}{ds:List DictEntry}(h:Ents P as ks im l ds):EI P as ks im l ds:=by
 cases h with
 |nil=>exact rfl
 |cons h hs=>exact⟨_,_,_,rfl,h,hs⟩
theorem Ents.consI{p:Str×MV}{es:List (Str×MV)}{ds:List DictEntry}(h:Ents P as ks im (p::es) ds):∃w t r,ds=⟨PyData.keyHash P p.1,.str p.1 t,w⟩::r∧VR as ks im p.2 w∧Ents P as ks im es r:=h.inv
theorem Ents.nilI{ds:List DictEntry}(h:Ents P as ks im [] ds):ds=[]:=h.inv
noncomputable def OSI(P:Params)(as:List Addr)(ks:List (Bool×Int))(im:List (Addr×Obj))(l:List MO)(L:List (Addr×Obj)):Prop:=match l with
 |[]=>L=[]
 |o::os=>∃p ps,L=p::ps∧OR P as ks im o p.2∧ORs P as ks im os ps
theorem ORs.inv{l:List MO}{L:List (Addr×Obj)}(h:ORs P as ks im l L):OSI P as ks im l L:=by
 cases h with
 |nil=>exact rfl
 |cons h hs=>exact⟨_,_,rfl,h,hs⟩
theorem ORs.consI{o:MO}{os:List MO}{L:List (Addr×Obj)}(h:ORs P as ks im (o::os) L):∃p ps,L=p::ps∧OR P as ks im o p.2∧ORs P as ks im os ps:=h.inv
theorem ORs.nilI{L:List (Addr×Obj)}(h:ORs P as ks im [] L):L=[]:=h.inv
theorem ORs.hd{o o':MO}{os os':List MO}{L:List (Addr×Obj)}(A:ORs P as ks im (o::os) L)(f:∀b,OR P as ks im o b→OR P as' ks' im o' b)(g:∀L,ORs P as ks im os L→ORs P as' ks' im os' L):ORs P as' ks' im (o'::os') L:=by
 obtain⟨p,R,rfl,h,A⟩:=A.consI;exact .cons (f _ h) (g _ A)
theorem Ents.shift{i i':Nat}(ha:∀j,j < 7→as'[i'+j]? =as[i+j]?):∀{l:List (Str×Nat)} {ds:List DictEntry},(∀p ∈ l,p.2 < 7)→Ents P as ks im (l.map fun p=>(p.1,.ref (i+p.2))) ds→Ents P as' ks' im (l.map fun p=>(p.1,.ref (i'+p.2))) ds
 |[],_,_,h=>by
  obtain rfl:=h.nilI;exact .nil
 |p::l,_,hl,h=>by
  obtain⟨w,t,r,rfl,h,hs⟩:=h.consI;obtain⟨a,rfl,g⟩:=h.refI
  exact .cons (.ref ((ha p.2 (hl p (.head _))).trans g)) (hs.shift ha fun q hq=>hl q (.tail _ hq))
theorem G5:∀p ∈ ktN,p.2 < 7:=by
 have h:(ktN.map (·.2))=[2,3,4,5,6]:=rfl
 intro p hp;have h2:p.2 ∈ [2,3,4,5,6]:=h ▸List.mem_map_of_mem hp
 exact (show ∀n ∈ [2,3,4,5,6],n < 7 by decide) _ h2
theorem OR.lpz{vs:List MV}{o:Obj}(h:OR P as ks im (.list vs) o)(p:∀v ∈ vs,Pz v):OR P as' ks' im (.list vs) o:=by
 obtain⟨ws,ep,rfl,h,hl⟩:=h.listI;exact .list (h.pz p) hl
theorem OR.dpz{es:List (MV×MV)}{o:Obj}(h:OR P as ks im (.dict es) o)(p:∀q ∈ es,Pz q.1∧Pz q.2):OR P as' ks' im (.dict es) o:=by
 cases h with
 |ndict h hl ho=>exact .ndict (h.pz p) hl ho
 |hdict h hl hc hd hds hn=>exact .hdict (h.pz p) hl hc hd hds hn
theorem jg{i i':Nat}(ha:∀j,j < 7→as'[i'+j]? =as[i+j]?){E:List MV}{D W O:List Int}{L:List (Addr×Obj)}(hE:∀r ∈ E,mF r)(h:ORs P as ks im (bH i E D W O) L):ORs P as' ks' im (bH i' E D W O) L:=by
 have hr:∀v ∈ rows0++E,Pz v:=kT (uH (by decide+kernel)) fun v h=>uK (hE v h)
 refine h.hd (fun _ h=>?_) fun _ h=>h.hd (fun _ h=>?_) fun _ h=>h.hd (fun _ h=>h.lpz hr) fun _ h=>h.hd (fun _ h=>h.dpz (uL 0 hr)) fun _ h=>h.hd (fun _ h=>h.lpz (kT (uH (by decide+kernel)) (ff D))) fun _ h=>h.hd (fun _ h=>h.lpz (kT (uH (by decide+kernel)) (ff W))) fun _ h=>h.hd (fun _ h=>h.lpz (kT (uH (by decide+kernel)) (ff O))) fun _ h=>h.nilI ▸ .nil
 ·obtain⟨a,rfl,g⟩:=h.instI
  exact .inst ((ha 1 (by decide)).trans g)
 ·obtain⟨ds,ep,rfl,g,hf,hl⟩:=h.idictI;exact .idict (g.shift ha G5) (List.forall_mem_map.mpr (List.forall_mem_map.mp hf)) hl
theorem KN.nil:KN []:=fun i j k h=>by unfold bQ at h;simp at h
theorem KB.nil:KB []:=fun i k h=>by unfold bQ at h;simp at h
end
section
variable{l:LS}{st:MS}{s2:Shared}
theorem ic{α:Type}{l l':List α}(h:l <+:l'){i:Nat}(hi:i < l.length):l[i]? =l'[i]? :=by
 obtain⟨r,rfl⟩:=h;rw [yaZ hi]
theorem ml{i:Nat}{E:List MV}{D W O:List Int}:(bH i E D W O).length=7:=rfl
noncomputable abbrev rQ(l:LS):LS:=⟨(l.RL.drop 2).take 7,l.im,[]⟩
noncomputable abbrev G6(X:List (Addr×Obj))(l:LS):List (Addr×Obj):=X++(l.RL.take 2++l.RL.drop 9)
theorem tab_mem{l:LS}{p:Addr×Obj}:p ∈ l.RL ↔ p ∈ l.RL.take 2∨p ∈ (l.RL.drop 2).take 7∨p ∈ l.RL.drop 9:=by
 have e:l.RL=l.RL.take 2++((l.RL.drop 2).take 7++l.RL.drop 9):=by
  rw [←List.drop_drop (i:=7) (j:=2),yrZ,yrZ]
 constructor
 ·intro h;rw [e]at h
  simpa only [yoZ]using h
 ·intro h;rw [e]
  simpa only [yoZ]using h
theorem spv{α:Type}{A I Y:List α}{p:α}(h:p ∈ (A.drop 2).take 7++(I++(Y++(A.take 2++A.drop 9)))):p ∈ A++(I++Y):=
 (maZ h).elim (fun h=>mlZ _ (List.mem_of_mem_drop (mtZ h))) fun h=>(maZ h).elim (fun h=>mrZ _ (mlZ _ h)) fun h=>(maZ h).elim (fun h=>mrZ _ (mrZ _ h)) fun h=>mlZ _ ((maZ h).elim mtZ List.mem_of_mem_drop)
theorem uM{i:Nat}{E:List MV}{D W O:List Int}:∀o ∈ bH i E D W O,o≠ .ktb:=fcZ ⟨(fun h=>nomatch h),fcZ ⟨(fun h=>nomatch h),fcZ ⟨(fun h=>nomatch h),fcZ ⟨(fun h=>nomatch h),fcZ ⟨(fun h=>nomatch h),fcZ ⟨(fun h=>nomatch h),fcZ ⟨(fun h=>nomatch h),fun _ h=>nomatch h⟩⟩⟩⟩⟩⟩⟩
theorem Now.viewT(n:Now w h₀ L m X l st s)(hi:st.H[2]? =some .ktb):∃E D W O,TabE w.rows st.dyn l.ks E D W O∧Now ⟨w.w,(bH 0 E D W O).zip (rQ l).RL,[],[]⟩ h₀ L m (G6 X l) (rQ l) ⟨bH 0 E D W O,[],aD,aD⟩ s:=by
 obtain⟨⟨E,D,W,O,⟨t1,_⟩,t2⟩,U⟩:=n.H.tab 2 hi
 have hE:∀r ∈ E,mF r:=fun r hr=>(t1.ok r hr).1
 have zr:9≤l.RL.length:=by
  have:=t2.length;rw [ml,yeZ,List.length_drop]at this
  lia
 refine⟨E,D,W,O,t1,⟨n.F,fun p hp=>n.N p ?_,⟨?_,?_,n.H.imt,KN.nil,KB.nil,fun j hj=>?_⟩,fun p hp q hq=>?_,fun q hq=>n.sm q (tab_mem.mpr (.inr (.inl hq))),fun j o _ h2=>?_,fun j k h=>by simp at h⟩⟩
 ·exact spv hp
 ·refine jg (fun j hj=>?_) hE t2
  show (((l.RL.drop 2).take 7).map (·.1))[0+j]? =(l.RL.map (·.1))[2+j]?
  rw [ydZ,ydZ,ycZ (by lia),List.getElem?_drop]
  congr 2;lia
 ·show (((l.RL.drop 2).take 7).map (·.1)).Nodup
  rw [yqZ,List.map_drop];exact n.H.nd.sublist ((List.take_sublist _ _).trans (List.drop_sublist _ _))
 ·exact absurd rfl (uM _ (moZ hj))
 ·have hq':q ∈ (l.RL.drop 2).take 7:=hq;rcases maZ hp with h|h
  ·exact n.ap p h q (tab_mem.mpr (.inr (.inl hq')))
  ·rcases maZ h with h|h
   ·exact eG n.H.nd 2 (by show p.1 ∈ (l.RL.map (·.1)).take 2;rw [←yqZ];exact List.mem_map_of_mem h) (by show q.1 ∈ (l.RL.map (·.1)).drop 2;rw [←List.map_drop];exact List.mem_map_of_mem (mtZ hq'))
   ·refine Ne.symm (eG n.H.nd 9 (x:=q.1) ?_ (by show p.1 ∈ (l.RL.map (·.1)).drop 9;rw [←List.map_drop];exact List.mem_map_of_mem h))
    show q.1 ∈ (l.RL.map (·.1)).take 9
    rw [←yqZ];refine List.mem_map_of_mem ?_;rw [List.take_drop]at hq';exact List.mem_of_mem_drop hq'
 ·obtain⟨g1,g2⟩:=fe h2
  exact⟨g1,o.2.2,g2,fun _=>rfl⟩
section
variable{α:Type}{A B I Y:List α}
theorem Z9(hA:9≤A.length){i:Nat}(h:i < 2):(A.take 2++(B.take 7++A.drop 9))[i]? =A[i]? :=by
 rw [yaZ (by rw [yeZ];lia),ycZ h]
theorem Za(hA:9≤A.length)(hB:7≤B.length){j:Nat}(h:j < 7):(A.take 2++(B.take 7++A.drop 9))[2+j]? =B[j]? :=by
 have e:(A.take 2).length=2:=by rw [yeZ,Nat.min_eq_left (by lia)]
 rw [yfZ (by rw [e];exact Nat.le_add_right ..),e,Nat.add_sub_cancel_left,yaZ (by rw [yeZ];lia),ycZ h]
theorem Zb(hA:9≤A.length)(hB:7≤B.length){i:Nat}(h:9≤i):(A.take 2++(B.take 7++A.drop 9))[i]? =A[i]? :=by
 have e:(A.take 2).length=2:=by rw [yeZ,Nat.min_eq_left (by lia)]
 have e7:(B.take 7).length=7:=by rw [yeZ,Nat.min_eq_left hB]
 rw [yfZ (by rw [e];lia),e,yfZ (by rw [e7];lia),e7,List.getElem?_drop]
 congr 1
 lia
theorem Zc{q:α}(h:q ∈ A.take 2++(B.take 7++A.drop 9)):q ∈ A∨q ∈ B:=(maZ h).elim (fun h=>.inl (mtZ h)) fun h=>(maZ h).elim (fun h=>.inr (mtZ h)) fun h=>.inl (List.mem_of_mem_drop h)
theorem spn{p:α}(h:p ∈ (A.take 2++(B.take 7++A.drop 9))++(I++Y)):p ∈ B++(I++(Y++(A.take 2++A.drop 9))):=by
 have r:∀{Z},p ∈ Z→p ∈ Y++Z→p ∈ B++(I++(Y++Z)):=fun _ h=>mrZ _ (mrZ _ h)
 rcases maZ h with h|h
 ·rcases maZ h with h|h
  ·have z:=mlZ (A.drop 9) h;exact r z (mrZ _ z)
  ·rcases maZ h with h|h
   ·exact mlZ _ (mtZ h)
   ·have z:=mrZ (A.take 2) h;exact r z (mrZ _ z)
 ·exact mrZ _ ((maZ h).elim (mlZ _) fun h=>mrZ _ (mlZ _ h))
theorem spd(hA:9≤A.length)(hB:7≤B.length):((A.take 2++(B.take 7++A.drop 9)).drop 2).take 7=B.take 7:=by
 rw [List.drop_append_of_le_length (by rw [yeZ];lia),List.drop_of_length_le (by rw [yeZ];lia),List.nil_append,List.take_append_of_le_length (by rw [yeZ];lia),List.take_take,Nat.min_self]
theorem spf{β:Type}{f:α→β}(h:(B.map f).take 7=((A.map f).drop 2).take 7):(A.take 2++(B.take 7++A.drop 9)).map f=A.map f:=by
 rw [List.map_append,List.map_append,yqZ,yqZ,List.map_drop,h,←List.drop_drop (i:=7) (j:=2),yrZ,yrZ]
theorem Zd(i:Nat):i < 2∨(∃j,j < 7∧i=2+j)∨9≤i:=by
 by_cases h:i < 2
 ·exact .inl h
 ·by_cases h9:9≤i
  ·exact .inr (.inr h9)
  ·exact .inr (.inl ⟨i - 2,by lia,by lia⟩)
end
theorem Now.unviewT{E:List MV}{D W O:List Int}(n:Now w h₀ L m X l st s)(hi:st.H[2]? =some .ktb)(n2:Now w' h₀ L m (G6 X l) l2 st2 s2)(hw:w'.w=w.w)(x:Ext (rQ l) l2)(hH:st2.H.take 7=bH 0 E D W O)
  (hT:TabE w.rows dyn' ks' E D W O) (hk:l.ks <+:ks') (kn:KN ks') (kb:KB ks'):Now w h₀ L m X ⟨l.RL.take 2++(l2.RL.take 7++l.RL.drop 9),l2.im,ks'⟩ ⟨st.H,dyn',st.low,st.bas⟩ s2∧(⟨l.RL.take 2++(l2.RL.take 7++l.RL.drop 9),l2.im,ks'⟩:LS).as=l.as:=by
 obtain⟨⟨E0,D0,W0,O0,⟨u1,_⟩,u2⟩,U⟩:=n.H.tab 2 hi
 have hA:9≤l.RL.length:=by
  have:=u2.length;rw [ml,yeZ,List.length_drop]at this
  lia
 have pw:w'.params=w.params:=by unfold Wd.params;rw [hw]
 have x0:(l.as.drop 2).take 7 <+:l2.as:=by
  have x:=x.as
  rw [show (rQ l).as=(l.as.drop 2).take 7 by show ((l.RL.drop 2).take 7).map (·.1)=((l.RL.map (·.1)).drop 2).take 7;rw [yqZ,List.map_drop]]at x
  exact x
 have hla:((l.as.drop 2).take 7).length=7:=by
  rw [yeZ,List.length_drop,show l.as.length=l.RL.length from List.length_map ..]
  lia
 have hB:7≤l2.RL.length:=leZ (hla ▸x0.length_le) (Nat.le_of_eq (List.length_map ..))
 have e2:l2.as.take 7=(l.as.drop 2).take 7:=((List.prefix_iff_eq_take.mp x0).trans (congrArg (fun k=>l2.as.take k) hla)).symm
 have ef:(l.RL.take 2++(l2.RL.take 7++l.RL.drop 9)).map (·.1)=l.as:=spf e2
 have z7':ORs w.params l.as ks' l2.im (bH 2 E D W O) (l2.RL.take 7):=by
  have z7:ORs w'.params l2.as l2.ks l2.im (bH 0 E D W O) (l2.RL.take 7):=hH ▸n2.H.obj.take 7;rw [pw]at z7
  refine jg (fun j hj=>?_) (fun r hr=>(hT.ok r hr).1) z7
  rw [Nat.zero_add,←ic x0 (hla.symm ▸hj),ycZ hj,List.getElem?_drop]
 have hO:∀(i:Nat) (o:MO) (p:Addr×Obj),st.H[i]? =some o→(l.RL.take 2++(l2.RL.take 7++l.RL.drop 9))[i]? =some p→OR w.params l.as ks' l2.im o p.2:=fun i o p h1 h3=>by
  have old:l.RL[i]? =some p→OR w.params l.as ks' l2.im o p.2:=fun h=>by
   obtain⟨q,hq,hO⟩:=n.H.obj.get h1;obtain rfl:=oiZ (h.symm.trans hq);exact hO.mono prZ hk x.im
  rcases Zd i with h|⟨j,hj,rfl⟩|h
  ·exact old ((Z9 hA h).symm.trans h3)
  ·have h3':(l2.RL.take 7)[j]? =some p:=(ycZ hj).trans ((Za hA hB hj).symm.trans h3);obtain⟨q,hq,hO⟩:=z7'.get (yiZ hj:(bH 2 E D W O)[j]? =some _);obtain rfl:=oiZ (h3'.symm.trans hq)
   cases j with
   |zero=>
    obtain rfl:=oiZ (hi.symm.trans h1);obtain⟨a,e,_⟩:=OR.instI hO;exact e ▸ .ktb
   |succ j=>
    obtain rfl:=oiZ ((U (j+1) (Nat.le_add_left ..) (Nat.le_of_lt_succ hj)).symm.trans h1);exact .any (OR.notTup w hO)
  ·exact old ((Zb hA hB h).symm.trans h3)
 refine⟨⟨n2.F,fun p hp=>n2.N p (spn hp),⟨?_,?_,n2.H.imt,kn,kb,fun i hi'=>?_⟩,fun p hp q hq=>(Zc hq).elim (n.ap p hp q) (n2.ap p (mlZ _ hp) q),fun q hq=>(Zc hq).elim (n.sm q) (n2.sm q),fun i o h1 h2=>?_,fun a b h=>be hk (n.oq a b h)⟩,ef⟩
 ·show ORs w.params ((l.RL.take 2++(l2.RL.take 7++l.RL.drop 9)).map (·.1)) ks' l2.im st.H (l.RL.take 2++(l2.RL.take 7++l.RL.drop 9))
  rw [ef]
  refine ORs.of_get ?_ fun i o p=>hO i o p
  have e:=congrArg List.length ef;rw [List.length_map]at e;exact n.H.len.symm.trans e.symm
 ·show ((l.RL.take 2++(l2.RL.take 7++l.RL.drop 9)).map (·.1)).Nodup
  rw [ef];exact n.H.nd
 ·obtain rfl:i=2:=by
   obtain⟨_,_,_,_,⟨_,h⟩,_⟩:=(n.H.tab i hi').1;exact h
  refine⟨⟨E,D,W,O,⟨hT,rfl⟩,?_⟩,U⟩
  show ORs w.params ((l.RL.take 2++(l2.RL.take 7++l.RL.drop 9)).map (·.1)) ks' l2.im (bH 2 E D W O) (((l.RL.take 2++(l2.RL.take 7++l.RL.drop 9)).drop 2).take 7)
  rw [ef,spd hA hB];exact z7'
 ·obtain⟨q1,b,q2,q3⟩:=n.bq i o h1 h2;refine⟨q1,?_⟩
  show Fits o (l.RL.take 2++(l2.RL.take 7++l.RL.drop 9))[i]?
  rcases Zd i with c|⟨j,hj,rfl⟩|c
  ·exact⟨b,(Z9 hA c).trans q2,q3⟩
  ·have ha:l2.as[j]? =some o.2.1:=by
    rw [←ic x0 (hla.symm ▸hj),ycZ hj,List.getElem?_drop]
    exact (ydZ ..).trans (congrArg (Option.map (·.1)) q2)
   obtain⟨r,r1,r2⟩:=ysZ.mp ((ydZ ..).symm.trans ha)
   have hpl:o.1.plain=false:=by
    cases j with
    |zero=>exact oiZ (hi.symm.trans q1) ▸rfl
    |succ j=>exact oiZ ((U (j+1) (Nat.le_add_left ..) (Nat.le_of_lt_succ hj)).symm.trans q1) ▸rfl
   exact⟨r.2,(Za hA hB hj).trans (r1.trans (congrArg some (r2 ▸rfl))),fun h=>nomatch hpl.symm.trans h⟩
  ·exact⟨b,(Zb hA hB c).trans q2,q3⟩
end
@[reducible] noncomputable def lw:OpenLaw:=PySem.Challenge.rw_xm0256_01
theorem lo1:(sreFenced pg.main && ((moduleNames pg.main.body).isEmpty || lookedIntoSs (moduleNames pg.main.body) pg.main.body))=true:=by kernel_rfl
theorem lo2:namesResolve pg=true:=by rw [PySem.W.Fast.te8377067652309620493];kernel_rfl
theorem lo3:pg.boundNames.all (fun n=> !worldNames.contains n)=true:=by kernel_rfl
theorem ro1:readsOut pg pg.main.body ("vars":Str)=false:=by
 unfold readsOut;rw [yvZ];kernel_rfl
theorem ro2:readsOut pg pg.main.body ("dir":Str)=false:=by
 unfold readsOut;rw [yvZ];kernel_rfl
theorem ro3:readsOut pg pg.main.body ("locals":Str)=false:=by
 unfold readsOut;rw [yvZ];kernel_rfl
theorem ro4:(!(importedModules pg.main.body).all cThrough.contains)=false:=by kernel_rfl
theorem uN(lk)(a b:List Stmt):noRoadLSs lk a=true→noRoadLSs lk b=true→noRoadLSs lk (a++b)=true:=by
 induction a with
 |nil=>exact fun _ h=>h
 |cons s a ih=>
  intro h k
  obtain⟨h1,h2⟩:=abZ (show (noRoadLS lk s && noRoadLSs lk a)=true from h)
  exact (Bool.and_eq_true_iff.mpr ⟨h1,ih h2 k⟩:(noRoadLS lk s && noRoadLSs lk (a++b))=true)
noncomputable abbrev uO:Look:={strict:=false,foot:=none,bare:=[]}
theorem nr1:noRoadLSs uO (pg.main.body.take 80)=true:=by
 rw [ywZ];kernel_rfl
theorem nr2:noRoadLSs uO ((pg.main.body.drop 80).take 60)=true:=by
 rw [ywZ];kernel_rfl
theorem nr3:noRoadLSs uO ((pg.main.body.drop 80).drop 60)=true:=by
 rw [ywZ];kernel_rfl
theorem ro5:noRoadLSs {strict:=false,foot:=none,bare:=[]} pg.main.body=true:=by
 have e:=uN uO _ _ nr1 (uN uO _ _ nr2 nr3);rw [yrZ,yrZ]at e;exact e
theorem lo4:noRoadLSs {strict:= !(importedModules pg.main.body).all cThrough.contains,foot:=none,bare:=(["vars","dir","locals"]:List Str).filter (readsOut pg pg.main.body)} pg.main.body=true:=by
 have e:(["vars","dir","locals"]:List Str).filter (readsOut pg pg.main.body)=[]:=by
  rw [List.filter_cons_of_neg (by rw [ro1];decide),List.filter_cons_of_neg (by rw [ro2];decide),List.filter_cons_of_neg (by rw [ro3];decide),List.filter_nil]
 rw [e,ro4];exact ro5
theorem lo5:(namesMeet pg pg.main.body fun _ n=>attrL n)=true:=by rw [yvZ,PySem.W.Fast.te17868728402115742887];kernel_rfl
theorem lo:looksOpen pg=true:=look_both (look_both (look_both (look_both lo1 lo2) lo3) lo4) lo5
theorem Vd:(pg.boundNames.contains lw.row.name && !startupNames.contains lw.row.name)=true:=by kernel_rfl
theorem Ve:lw.row.partSaid=looksOpen pg:=by
 unfold OpenRow.partSaid
 show (looksOpen pg && _ && _ && _ && _ && _ && _ && _ && _ && _ && _ && _ && _ && _)=_
 cases looksOpen pg <;>kernel_rfl
theorem ws1:lw.row.wellSaid=true:=by
 unfold OpenRow.wellSaid;rw [Ve,lo,Bool.true_and];exact Vd
theorem Vf:decide (lw.foot≤(behindTheImports lw.prog).length)=true:=by kernel_rfl
theorem ws3:lw.footing.all footLine=true:=by kernel_rfl
theorem ws4:noClassBlock lw.prog lw.footing=true:=by kernel_rfl
theorem Ze:(lw.most.all (fun n=>decide (63≤n)) && lw.bound.all (fun n=>decide (2 ^ 63≤n)))=true:=by kernel_rfl
theorem ws6:noRoadLSs {strict:=true,foot:=some lw.bound',writes:=lw.writes,may:=lw.may} lw.footing=true:=by kernel_rfl
theorem ws7:defStands lw.about lw.above=true:=by kernel_rfl
theorem ws8:lw.namesIt=true:=by kernel_rfl
theorem ws9:(["type","isinstance","issubclass","getattr","hasattr"]:List Str).all (fun n=>lw.about != [n])=true:=by kernel_rfl
theorem Vg:lw.bound'.all (fun n=> !builtinNamed n || lw.about==[n] || !lw.reads n)=true:=by kernel_rfl
theorem Vh:(!lw.writes || (lw.prog.main.body.flatMap importedNames).all fun n=> !lw.reads n)=true:=by kernel_rfl
theorem Vi:(lw.prog.main.body.flatMap importedNames).all (fun n=> !lw.reads n || (drawsOf n lw.prog.main.body).all fun mn=>mn.2 !=("attrgetter":Str) && mn.2 !=("methodcaller":Str))=true:=by kernel_rfl
theorem Vj:namesMeet lw.prog lw.footing (fun sc n=>(!(["type","isinstance","issubclass","getattr","hasattr"]:List Str).contains n || sc.names.lookup n==some .globalImplicit) && (lw.may !=some n || sc.kind==.module || sc.names.lookup n==some .globalImplicit))=true:=by kernel_rfl
theorem G7:(lw.own.contains lw.name && lw.own.eraseDups.length==lw.own.length && lw.own.all (fun n=> !builtinNamed n))=true:=by kernel_rfl
theorem Vk:namesMeet lw.prog lw.above (fun _ n=> !lw.own.contains n)=true:=by kernel_rfl
theorem Vl:(namesMeet lw.prog lw.footing fun sc n=>sc.kind==.module || sc.names.lookup n !=some .globalExplicit)=true:=by kernel_rfl
theorem Vm:lw.wellSaid=true:=(look_both (look_both (look_both (look_both (look_both (look_both (look_both (look_both (look_both (look_both (look_both (look_both (look_both (look_both (look_both (look_both (look_both (look_both ws1 Vf) ws3) ws4) (abZ Ze).1) (abZ Ze).2) ws6) ws7) ws8) ws9) Vg) Vh) Vi) Vj) (abZ (abZ G7).1).1) (abZ (abZ G7).1).2) (abZ G7).2) Vk) Vl)
def d1:DefRec:=⟨sO "law",fA (st 189),fB (st 189),fS (st 189),Ut⟩
theorem QM:defOf q1 lw.row.name=some (d1,[]):=by kernel_rfl
theorem hp1:lw.row.prog.theDef lw.row.name=some (d1.params,d1.body,d1.scope):=by kernel_rfl
theorem hk1:kwWritten? d1.params.kwonlyargs d1.params.kw_defaults=some []:=by kernel_rfl
theorem okA:chainsOk q1=true:=by kernel_rfl
theorem okB:opensWell lw.row.prog=true:=by kernel_rfl
theorem okD:frees lw.row.toRowW=true:=by kernel_rfl
theorem okE:lw.row.within.isEmpty=true:=by kernel_rfl
theorem ok1:(chainsOk q1 && opensWell lw.row.prog && (frees lw.row.toRowW && lw.row.within.isEmpty))=true:=by
 rw [okA,okB,okD,okE];rfl
theorem Zf{α:Type}(A:TablesWhole.Alg α)(he:∀x,A.both A.unit x=x)(ha:∀x y z,A.both (A.both x y) z=A.both x (A.both y z))(top:Scope)(cx:TablesWhole.Ctx)(sc:Scope)(b:List Stmt):∀a:List Stmt,TablesWhole.wSs A top cx sc (a++b)=A.both (TablesWhole.wSs A top cx sc a) (TablesWhole.wSs A top cx sc b)
 |[]=>(he _).symm
 |s::a=>(congrArg (A.both (TablesWhole.wS A top cx sc s)) (Zf A he ha top cx sc b a)).trans (ha _ _ _).symm
theorem tw2{α:Type}(A:TablesWhole.Alg α)(he:∀x,A.both A.unit x=x)(ha:∀x y z,A.both (A.both x y) z=A.both x (A.both y z))(top:Scope)(cx:TablesWhole.Ctx)(sc:Scope)(l:List Stmt)(n:Nat){x y z:α}(h1:TablesWhole.wSs A top cx sc (l.take n)=x)(h2:TablesWhole.wSs A top cx sc (l.drop n)=y)(h:A.both x y=z):TablesWhole.wSs A top cx sc l=z:=by
 have e:=Zf A he ha top cx sc (l.drop n) (l.take n);rw [yrZ,h1,h2]at e;exact e.trans h
theorem tw3{m:Module}{l:List Str}(h1:TablesWhole.wSs TablesWhole.gather m.scope ⟨m.scope,[],[],[],none⟩ m.scope m.body=l)(h2:TablesWhole.noTwice m.scope=true)(h3:TablesWhole.wSs TablesWhole.holds m.scope ⟨m.scope,[],l,[],none⟩ m.scope m.body=true):TablesWhole.wModule TablesWhole.holds m=true:=by
 subst h1
 show (true && (TablesWhole.noTwice m.scope && (_ && true)))=true
 rw [h2,h3];rfl
theorem tw4{p:Program}(a:p.modules=[])(b:p.parses=[])(c:p.harvested=[])(h:TablesWhole.wModule TablesWhole.holds p.main=true):p.tablesWhole=true:=by
 unfold Program.tablesWhole TablesWhole.wProgram;rw [a,b,c,h];rfl
noncomputable abbrev Vn:TablesWhole.Ctx:=⟨pg.main.scope,[],[],[],none⟩
noncomputable abbrev QN(l:List Stmt):Bool:=TablesWhole.wSs TablesWhole.holds pg.main.scope Vn pg.main.scope l
theorem twg:TablesWhole.wSs TablesWhole.gather pg.main.scope Vn pg.main.scope pg.main.body=[]:=by kernel_rfl
theorem Vo:QN (pg.main.body.take 70)=true:=by kernel_rfl
theorem Vp:QN ((pg.main.body.drop 70).take 60)=true:=by kernel_rfl
theorem Vq:QN (((pg.main.body.drop 70).drop 60).take 25)=true:=by kernel_rfl
theorem Vr:QN (((pg.main.body.drop 70).drop 60).drop 25)=true:=by kernel_rfl
theorem twh:QN pg.main.body=true:=
 have k:=@tw2 _ TablesWhole.holds (fun _=>Bool.true_and _) (fun _ _ _=>Bool.and_assoc _ _ _) pg.main.scope Vn pg.main.scope
 k _ 70 Vo (k _ 60 Vp (k _ 25 Vq Vr rfl) rfl) rfl
theorem twn:TablesWhole.noTwice pg.main.scope=true:=by
 rw [PySem.W.Fast.te8331962902438777018];kernel_rfl
theorem Vs:lw.row.prog.bare:=⟨rfl,rfl,rfl,rfl,rfl,tw4 rfl rfl rfl (tw3 twg twn twh)⟩
theorem hw1:lw.row.toRowW.promised:=⟨[.list []],by decide+kernel,by decide+kernel⟩
theorem uP(call:WalkO q1 bW (fun _ _=>True) (kHook Kf asK jz).says lw.row.toRowW d1 [] fun f vs=>PySem.call f vs):PySem.Challenge.rw_xm0256_01.Holds:=
 holds_law Vm fun k1=>holds_open Pc (Hook.of _) (Hook.keeps _) (fun _ _=>trivial) (fun _ _ _ _ _=>trivial) QM hp1 hk1 (fun s _=>recFacts_nil rfl) rfl k1 ok1 Vs hw1 call
def pr:Prop:=∀(w:World) (F:Fm) (S:Sit ⟨w,[],[],[]⟩ F) (R:Room F.A 33) (hs:F.scope=fS (st 189)) (ns:List Int) (hn:ns.length≤3) (m:Str→Option Value) (l:LS) (s:Shared),
 Now ⟨w,[],[],[]⟩ F.h₀ F.L m [] l ⟨[.list (ns.map .int)],[],aD,aD⟩ s→LocR F [] l [(sO "nums",.ref 0)] m→
 ∀(Q:Flow→Shared→Prop) (E:Value→Shared→Prop),(∀s2,(∀b o,F.h₀.get? b=some o→s2.heap.get? b=some o)→Same s s2→Q (.ret (.bool true)) s2)→wpAny (M ⟨w,[],[],[]⟩) F.A (execs ((fB (st 189)).drop 1) F.env) Q E s
theorem Vt(H:pr):WalkO q1 bW (fun _ _=>True) (kHook Kf asK jz).says lw.row.toRowW d1 [] fun f vs=>PySem.call f vs:=by
 intro w s₀ s₁ mg mb G Y fa o pm cd doc dV kV ho hd hcd hD hmg hg args zq as hpre hlay hrd hwl hlo;have KX:=kIn_of Y;refine Ground.open G ?_;intro T B D TE TW;clear D;obtain⟨_,_,M⟩:=bmod_of_top T
 wrow_args hpre hlay hrd hwl hlo
 refine enter_call ?_
 refine codeAny_mono ?_ (fun _ _ g=>GoodW.toG g)
 have K0:=below_caller (Top.heap T)
 w_call any ho hd hcd hD T F
 clear hd;rename_i ns _ _ _ _ _ _ _ sa ws _ hL ra w1 r0 hI _ zr _ h₁ N0
 have hfin:∀s':Shared,(∀b o,s₁.heap.get? b=some o→s'.heap.get? b=some o)→s'.gens=#[]→s'.os=s₁.os→GoodW lw.row.claim (classAt s₀.heap) (ExcName.means s₀.heap) [ofPy (PyData.list (List.map PyData.int ns))] s₁ (Except.ok (Flow.ret (.bool true))) s':=fun s' hk hgs hos=>
  ⟨.inl ⟨.bool true,.bool true,[],rfl,raisesW_false (by wrow_none_raised),.bool true,by wrow_post,unshared_nil⟩,hk,hos,hgs⟩
 let F2:Fm:={A₀:=callerA,A:=callerA.deeper (envOf d1.name d1.scope s₁.heap.objs.size fa cd),base:=s₁.heap,h₀:=s₁.heap,outer:=[],qual:=d1.name,scope:=d1.scope,L:=s₁.heap.objs.size,f:=fa,cdv:=cd,cl:=[],mean:=ExcName.means s₀.heap,mg:=mg,mb:=mb}
 have S:Sit ⟨w,[],[],[]⟩ F2:={B:=K0,K:=KX,T:=T,fr:=rfl,hd:=rfl,kind:=rfl,dbg:=rfl,gen:=rfl,co:=rfl,cdc:=rfl}
 have n0:Now ⟨w,[],[],[]⟩ F2.h₀ F2.L _ [] ⟨[],[],[]⟩ ⟨[],[],aD,aD⟩ {s₁ with heap:=h₁,toks:=s₁.toks+1}:=
  ⟨F,fun p hp=>N0 p hp,⟨.nil,.nil,fun p hp=>by (cases hp),.nil,.nil,fun i e=>by (cases e)⟩,fun p hp=>by (cases hp),fun p hp=>by (cases hp),fun i o _ e=>by (cases e),fun n k e=>by (cases e)⟩
 have hR:Room F2.A 33:=⟨lbZ rfl,lbZ rfl⟩
 refine QL (F:=F2) (tl:=(fB (st 189)).drop 1) S n0 (by kernel_rfl) (by kernel_rfl) (by kernel_rfl) (by kernel_rfl) (by kernel_rfl) (by kernel_rfl) (sa:=sa) rfl hL hI (by lia) fun s2 m2 l2 nn hl sm=>?_
 refine H w F2 S hR rfl ((ns.take 3).map (· % 1000003)) (by simp;lia) m2 l2 s2 (by rw [List.map_map];exact nn) hl _ _ fun s3 hk sm2=>?_
 have sm3:=sm.trans sm2
 exact hfin s3 hk (by rw [sm3];exact hg) (by rw [sm3])
noncomputable def aq:List Stmt→xpZ
 | .If t _ _ _::_=>t
 |_=>.Constant .none 0 ⟨0,0,0,0⟩
noncomputable def d9:List Stmt→List Stmt
 | .If _ a _ _::_=>a
 |_=>[]
noncomputable def dp:List Stmt→List Stmt
 | .If _ _ b _::_=>b
 |_=>[]
def dI(R:List MV)(A B C D:MO)(dyn:List MV):MS:=⟨[.inst 86 1,.idict 86 (ktN.map fun p=>(p.1,.ref (0+p.2))),.list R,A,B,C,D],dyn,aD,aD⟩
noncomputable def G8:FI:=⟨76,sm 43 1⟩
def gw(k:Int):Loc:=[(sO "self",.ref 0),(sO "k",.int k)]
noncomputable def QO(r:Option (Bool×MS))(a b:MS→MR):MR:=match r with
 |some (true,st)=>a st
 |some (false,st)=>b st
 |none=>none
def aL(st0:MS)(r:MR):MR:=match r with
 |some (v,st')=>some (dh st0 v st')
 |none=>none
noncomputable def b2{α:Type}(b:Bool)(x y:α):α:=match b with
 |true=>x
 |false=>y
section
variable(R:List MV)(A B C D:MO)(dyn:List MV)(n d j:Nat)
noncomputable def cY:xpZ→List xpZ
 | .BoolOp _ l _=>l
 |_=>[]
def aW(l:List xpZ)(i:Nat):xpZ:=match aH l i with
 |some e=>e
 |none=>.Constant .none 0 ⟨0,0,0,0⟩
theorem G9:(aA aC (n+17) d).tst (fS (sm 43 1)).names (gw (.ofNat j)) (dI R A B C D dyn) (aW (cY (aq (fB (sm 43 1)))) 0)=some (Nat.blt j 0,dI R A B C D dyn):=by kernel_rfl
theorem Ga:(aA aC (n+17) d).tst (fS (sm 43 1)).names (gw (.ofNat j)) (dI R A B C D dyn) (aW (cY (aq (fB (sm 43 1)))) 1)=some (leB (.ofNat R.length) (.ofNat j),dI R A B C D dyn):=by kernel_rfl
theorem or2{ih:Ih}{cx:Cx}{zl:Loc}{st zz st2:MS}{e1 e2:xpZ}{b:Bool}(h1:ih.tst cx zl st e1=some (false,zz))(h2:ih.tst cx zl zz e2=some (b,st2)):cF ih cx zl .Or st [e1,e2]=some (b,st2):=by
 unfold cF;rw [h1]
 show cF ih cx zl .Or zz [e2]=_
 unfold cF;rw [h2]
 cases b <;>rfl
theorem Gb:(aA aC (n+18) d).tst (fS (sm 43 1)).names (gw (.ofNat j)) (dI R A B C D dyn) (aq (fB (sm 43 1)))=
 cF (aA aC (n+17) d) (fS (sm 43 1)).names (gw (.ofNat j)) .Or (dI R A B C D dyn) [aW (cY (aq (fB (sm 43 1)))) 0,aW (cY (aq (fB (sm 43 1)))) 1]:=by kernel_rfl
theorem QP:(aA aC (n+18) d).tst (fS (sm 43 1)).names (gw (.ofNat j)) (dI R A B C D dyn) (aq (fB (sm 43 1)))=some (leB (.ofNat R.length) (.ofNat j),dI R A B C D dyn):=
 (Gb R A B C D dyn n d j).trans (or2 (G9 R A B C D dyn n d j) (Ga R A B C D dyn n d j))
theorem QQ:(aA aC (n+19) d).run (fS (sm 43 1)).names [.stm (fB (sm 43 1))] (gw (.ofNat j)) (dI R A B C D dyn)=
 QO ((aA aC (n+18) d).tst (fS (sm 43 1)).names (gw (.ofNat j)) (dI R A B C D dyn) (aq (fB (sm 43 1)))) (fun st=>(aA aC (n+18) d).run (fS (sm 43 1)).names [.stm (d9 (fB (sm 43 1))),.stm ((fB (sm 43 1)).drop 1)] (gw (.ofNat j)) st)
  (fun st=>(aA aC (n+18) d).run (fS (sm 43 1)).names [.stm (dp (fB (sm 43 1))),.stm ((fB (sm 43 1)).drop 1)] (gw (.ofNat j)) st):=by kernel_rfl
theorem QR:(aA aC (n+18) d).run (fS (sm 43 1)).names [.stm (dp (fB (sm 43 1))),.stm ((fB (sm 43 1)).drop 1)] (gw (.ofNat j)) (dI R A B C D dyn)=(aH R j).map fun v=>(v,dI R A B C D dyn):=by kernel_rfl
theorem QS:(aA aC (n+20) (d+1)).cal G8 [.ref 0,.int (.ofNat j)] (dI R A B C D dyn)=
 aL (dI R A B C D dyn) ((aA aC (n+19) d).run (fS (sm 43 1)).names [.stm (fB (sm 43 1))] (gw (.ofNat j)) (dI R A B C D dyn)):=by kernel_rfl
theorem xc{v:MV}(hb:j < R.length)(hv:R[j]? =some v)(hn:bc 40 v=true):(aA aC (n+20) (d+1)).cal G8 [.ref 0,.int (.ofNat j)] (dI R A B C D dyn)=some (v,dI R A B C D dyn):=by
 have hl:leB (.ofNat R.length) (.ofNat j)=false:=by
  show Nat.ble R.length j=false
  exact Bool.eq_false_iff.mpr fun h=>by have:=lbZ h;lia
 rw [QS,QQ,QP,hl]
 show aL _ ((aA aC (n+18) d).run (fS (sm 43 1)).names [.stm (dp (fB (sm 43 1))),.stm ((fB (sm 43 1)).drop 1)] (gw (.ofNat j)) (dI R A B C D dyn))=_
 rw [QR,aJ,hv]
 show some (dh (dI R A B C D dyn) v (dI R A B C D dyn))=_
 unfold dh Fp;rw [hn];rfl
end
noncomputable def kY:List MV:=[.tup [.int 1,.int 0],.tup [.int 1,.int 1],.tup [.int 1,.int 2],.tup [.int 1,.int 3],.tup [.int 1,.int 4],.tup [.int 1,.int 5],.tup [.int 1,.int 6],.tup [.int 1,.int 7],.tup [.int 1,.int 8],
 .tup [.int 1,.int 9],.tup [.int 1,.int 10],.tup [.int 1,.int 11],.tup [.int 1,.int 12],.tup [.int 1,.int 13],.tup [.int 1,.int 14],.tup [.int 1,.int 15],
 .tup [.int 2,.int 64,.tup []],.tup [.int 2,.int 65,.tup []],.tup [.int 2,.int 66,.tup [.int 9]],.tup [.int 2,.int 67,.tup []],.tup [.int 2,.int 2,.tup []],
 .tup [.int 3,.int 68,.tup []],.tup [.int 2,.int 69,.tup []],.tup [.int 2,.int 70,.tup []],.tup [.int 6,.int 0]]
theorem b6:rows0=kY:=by kernel_rfl
noncomputable def pu:MO→Bool
 | .ktb=>true
 |_=>false
theorem oU{o:MO}(h:pu o=true):o=.ktb:=by
 cases o <;>first|rfl|exact cM h
def uQ(d:Nat)(args:List MV)(st:MS):MR:=UB args fun a v=>ob (fH a) fun i=>gd (Nat.beq i 2) (ob (aH st.H 2) fun o=>gd (pu o) (match d with
 |0=>none
 |_+1=>qg v (fun j=>match j with
  | .ofNat j=>(aH kY j).map fun r=>(r,st)
  | .negSucc _=>none) fun t=>ob (aH st.dyn t) fun r=>(e8 r).map fun vs=>(.tup vs,st)))
def Gc:aX:=fun a d args st=>match Nat.beq a 76 with
 |true=>uQ d args st
 |false=>none
theorem oV{r:MV}(h:mF r):bc 40 r=true:=match h with
 | .two _ _=>rfl
 | .box _=>rfl
theorem k7:∀r ∈ rows0,bc 40 r=true:=by
 have g:∀(l:List MV),lj l=true→∀r ∈ l,bc 40 r=true:=by
  intro l
  induction l with
  |nil=>exact fun _ _ hr=>nomatch hr
  |cons x l ih=>exact fun h=>fcZ ⟨(cO h).1,ih (cO h).2⟩
 exact g _ (by decide+kernel)
theorem uR:∀r ∈ rows0,Pz r:=uH (by decide+kernel)
section
variable{l:LS}{st:MS}
inductive uS(w:Wd)(F:Fm)(m:Str→Option Value)(X:List (Addr×Obj))(l:LS)(st:MS)(s:Shared)(d:Nat)(f:FI)(args':List MV)(Q:Result→Shared→Prop)(E:List MV)(D W O:List Int):Prop
 |mk (k:Nat) (v:MV) (st2:MS) (E':List MV) (D' W' O':List Int) (dyn':List MV) (ks':List (Bool×Int)) (e:(aA aC k d).cal f (.ref 0::args') ⟨bH 0 E D W O,[],aD,aD⟩=some (v,st2)) (hH:st2.H.take 7=bH 0 E' D' W' O') (hT:TabE w.rows dyn' ks' E' D' W' O') (hk:l.ks <+:ks') (kn:KN ks') (kb:KB ks')
  (hQ:∀v' s' l',Now w F.h₀ F.L m X l' ⟨st.H,dyn',st.low,st.bas⟩ s'→Ext l l'→Same s s'→l'.ks=ks'→(∀as2 ks2,VR as2 ks2 l'.im v v'→Q (.ok (.ret v')) s')):uS w F m X l st s d f args' Q E D W O
theorem dJ(S:Sit w F)(hA:A.frames=some (F.env::F.outer))(hh:A.handled=none)(R:ge A d)(n:Now w F.h₀ F.L m X l st s)(hi:st.H[2]? =some .ktb){f:FI}(hf:dT w.params f){a:Addr}(ha:l.as[2]? =some a){args':List MV}{zq:List Value}(zt:∀as',VRs as' [] l.im args' zq)
  {Q:Result→Shared→Prop}
  (h:∀E D W O,TabE w.rows st.dyn l.ks E D W O→uS w F m X l st s d f args' Q E D W O):codeAny (M w) A (.call (.ref f.ad) ⟨.ref a::zq,[]⟩) Q s:=by
 obtain⟨E,D,W,O,t1,nv⟩:=n.viewT hi;obtain⟨k,v,st2,E',D',W',O',dyn',ks',e,hH,hT,hk,kn,kb,hQ⟩:=h E D W O t1;have C:=(kQ (kO ⟨w.w,(bH 0 E D W O).zip (rQ l).RL,[],[]⟩) kP k).C d
 refine C F (S.to rfl) A hA hh R m (G6 X l) (rQ l) _ s f hf (.ref 0::args') (.ref a::zq) v st2 e nv (.cons (.ref ?_) (zt _)) Q fun v' s' l' n' x y r=>?_
 ·show (((l.RL.drop 2).take 7).map (·.1))[0]? =some a
  rw [ydZ,ycZ (by lia),List.getElem?_drop]
  rw [←ydZ];exact ha
 ·obtain⟨n3,e3⟩:=n.unviewT hi n' rfl x hH hT hk kn kb
  exact hQ v' s' _ n3 ⟨by rw [e3];exact prZ,hk,x.im⟩ y rfl _ _ r
theorem xd(w:Wd)(d:Nat):eC w d (fun f args st=>Gc f.ad d args st):=by
 intro F S A hA hh R m X l st s f hf args zq v st' e n hv Q hQ
 have e:(match Nat.beq f.ad 76 with|true=>uQ d args st|false=>none)=some (v,st'):=e
 cases h76:Nat.beq f.ad 76 with
 |false=>
  rw [h76]at e;exact aF e
 |true=>
  rw [h76]at e;have h76:=ebZ h76
  have key:∀{K:Nat} {tok:Tok} {a:Addr},l.as[2]? =some a→st.H[2]? =some .ktb→(∃d',d=d'+1)→zq=[.ref a,.int (.ofNat K) tok]→st'=st→(∀E D W O,TabE w.rows st.dyn l.ks E D W O→(rows0++E)[K]? =some v)→codeAny (M w) A (.call (.ref f.ad) ⟨zq,[]⟩) Q s:=by
   intro K tok a ha hi hd hvals hst hrow;obtain⟨d',rfl⟩:=hd;subst hvals;subst hst;rw [h76]
   refine dJ (f:=G8) (args':=[.int (.ofNat K)]) S hA hh R n hi (V5 _) ha (fun as'=>.cons (.int _ _) .nil) fun E D W O t1=>?_
   have hr:=hrow E D W O t1;have hm:=moZ hr
   have hn:bc 40 v=true:=(maZ hm).elim (k7 v) fun h=>oV (t1.ok v h).1
   have hp:Pz v:=(maZ hm).elim (uR v) fun h=>uK (t1.ok v h).1
   refine⟨20,v,_,E,D,W,O,st'.dyn,l.ks,xc (rows0++E) _ _ _ _ [] 0 d' K (ybZ.mp hr).1 hr hn,rfl,t1,prZ,n.H.kn,n.H.kb,fun v' s' l' n' x y e r=>?_⟩
   intro ks2 r2;exact hQ v' s' l' n' x y (VR.pz r2 hp)
  refine (?_:Al (uQ d args st) fun p=>p=(v,st')→codeAny (M w) A (.call (.ref f.ad) ⟨zq,[]⟩) Q s) _ e rfl
  clear e
  refine .a2 fun a0 x ea=>.ob fun i hi=>.gd fun h2=>.ob fun o hk=>.gd fun hkt=>?_
  subst ea;obtain rfl:=cf hi;obtain rfl:=ebZ h2;obtain rfl:=oU hkt;rw [aJ]at hk;obtain⟨_,_,rfl,hv0,hv⟩:=hv.consI;obtain⟨_,_,rfl,hv1,hv⟩:=hv.consI;obtain rfl:=hv.nilI;obtain⟨a,rfl,ha⟩:=hv0.refI
  cases d with
  |zero=>exact .no
  |succ d'=>
   refine .num (fun j hj=>?_) fun t ht=>?_
   ·subst hj
    cases j with
    |negSucc _=>exact .no
    |ofNat j=>
     refine .mp fun r hr q=>?_
     obtain⟨rfl,rfl⟩:=Prod.mk.inj q;obtain⟨tok,rfl⟩:=hv1.intI;rw [aJ,←b6]at hr
     exact key ha hk ⟨d',rfl⟩ rfl rfl fun E D W O t=>(yaZ (ybZ.mp hr).1).trans hr
   ·subst ht
    refine .ob fun r hr=>.mp fun vs hvs q=>?_
    obtain rfl:=di hvs;obtain⟨rfl,rfl⟩:=Prod.mk.inj q;rw [aJ]at hr;obtain⟨k,tok,rfl,hkd⟩:=hv1.kdI;obtain⟨⟨E0,D0,W0,O0,⟨t0,_⟩,_⟩,_⟩:=n.H.tab 2 hk;obtain⟨j0,_,hj0⟩:=t0.at' t vs hr
    obtain rfl:Int.ofNat (25+j0)=k:=by
     unfold bQ at hkd;rw [hj0]at hkd;exact oiZ hkd
    refine key ha hk ⟨d',rfl⟩ rfl rfl fun E D W O t1=>?_
    obtain⟨j,h1,h2⟩:=t1.at' t vs hr;have h2:=Int.ofNat.inj (Prod.mk.inj (oiZ (hj0.symm.trans h2))).2;obtain rfl:=Nat.add_left_cancel h2;have h25:rows0.length=25:=b6 ▸rfl
    rw [yfZ (by rw [h25];exact Nat.le_add_right _ _),h25,Nat.add_sub_cancel_left]
    exact h1
theorem xf:ah Gc:=by
 intro a d args st v st' e
 have e:(match Nat.beq a 76 with|true=>uQ d args st|false=>none)=some (v,st'):=e
 cases h76:Nat.beq a 76 with
 |false=>
  rw [h76]at e;exact aF e
 |true=>
  rw [h76]at e
  refine (?_:Al (uQ d args st) fun p=>Pres st p.2) _ e
  refine .a2 fun a0 x _=>.ob fun i _=>.gd fun _=>.ob fun o _=>.gd fun _=>?_
  cases d with
  |zero=>exact .no
  |succ d'=>
   refine .num (fun j _=>?_) fun t _=>.ob fun r _=>.mp fun vs _=>Pres.rfl'
   cases j with
   |negSucc _=>exact .no
   |ofNat j=>exact .mp fun _ _=>Pres.rfl'
end
inductive Sh:MV→Prop
 |a (x y:Int):Sh (.tup [.int x,.int y])
 |b (x y:Int):Sh (.tup [.int x,.int y,.tup []])
 |c (x y z:Int):Sh (.tup [.int x,.int y,.tup [.int z]])
theorem k8{r:MV}(h:mF r):Sh r:=match h with
 | .two _ _=>.a _ _
 | .box _=>.c _ _ _
theorem mm:∀r ∈ rows0,Sh r:=fun r hr=>(maZ hr).elim (List.forall_mem_map.mpr (fun i _=>.a _ _) r) (fcZ ⟨.b _ _,fcZ ⟨.b _ _,fcZ ⟨.c _ _ _,fcZ ⟨.b _ _,fcZ ⟨.b _ _,
 fcZ ⟨.b _ _,fcZ ⟨.b _ _,fcZ ⟨.b _ _,fcZ ⟨.a _ _,fun _ h=>nomatch h⟩⟩⟩⟩⟩⟩⟩⟩⟩ r)
theorem k9{x x' y y':Int}{t:Bool}{P:Prop}(h:x=x'→y=y'→t=true→P)(k:P→x=x'∧y=y'∧t=true):an (eqB x x') (an (eqB y y') t)=true ↔ P:=
 ⟨fun e=>h ((PySem.W.Z.eqB_iff _ _).mp (cO e).1) ((PySem.W.Z.eqB_iff _ _).mp (cO (cO e).2).1) (cO (cO e).2).2,fun p=>by
  obtain⟨rfl,rfl,rfl⟩:=k p
  have a:∀z:Int,eqB z z=true:=fun z=>(PySem.W.Z.eqB_iff _ _).mpr rfl
  rw [a,a]
  rfl⟩
theorem gQ{a b a' b':Int}{r r':List MV}(h:MV.tup (.int a::.int b::r)=.tup (.int a'::.int b'::r')):a=a'∧b=b'∧r=r':=by
 injection h with h;injection h with h1 h;injection h with h2 h;injection h1 with h1;injection h2 with h2;exact⟨h1,h2,h⟩
theorem kc{r r':MV}(h:Sh r)(h':Sh r'):∃b,bP r r'=some b∧(b=true ↔ r=r'):=by
 cases h with
 |a x y=>cases h' with
  |a x' y'=>exact⟨an (eqB x x') (an (eqB y y') true),rfl,k9 (fun h1 h2 _=>h1 ▸h2 ▸rfl) fun h=>⟨(gQ h).1,(gQ h).2.1,rfl⟩⟩
  |b x' y'=>exact⟨an (eqB x x') (an (eqB y y') false),rfl,k9 (fun _ _ h=>cM h) fun h=>nomatch (gQ h).2.2⟩
  |c x' y' z'=>exact⟨an (eqB x x') (an (eqB y y') false),rfl,k9 (fun _ _ h=>cM h) fun h=>nomatch (gQ h).2.2⟩
 |b x y=>cases h' with
  |a x' y'=>exact⟨an (eqB x x') (an (eqB y y') false),rfl,k9 (fun _ _ h=>cM h) fun h=>nomatch (gQ h).2.2⟩
  |b x' y'=>exact⟨an (eqB x x') (an (eqB y y') true),rfl,k9 (fun h1 h2 _=>h1 ▸h2 ▸rfl) fun h=>⟨(gQ h).1,(gQ h).2.1,rfl⟩⟩
  |c x' y' z'=>exact⟨an (eqB x x') (an (eqB y y') false),rfl,k9 (fun _ _ h=>cM h) fun h=>nomatch (gQ h).2.2⟩
 |c x y z=>cases h' with
  |a x' y'=>exact⟨an (eqB x x') (an (eqB y y') false),rfl,k9 (fun _ _ h=>cM h) fun h=>nomatch (gQ h).2.2⟩
  |b x' y'=>exact⟨an (eqB x x') (an (eqB y y') false),rfl,k9 (fun _ _ h=>cM h) fun h=>nomatch (gQ h).2.2⟩
  |c x' y' z'=>exact⟨an (eqB x x') (an (eqB y y') (an (an (eqB z z') true) true)),rfl,k9 (fun h1 h2 h3=>h1 ▸h2 ▸(PySem.W.Z.eqB_iff _ _).mp (cO (cO h3).1).1 ▸rfl) fun h=>⟨(gQ h).1,(gQ h).2.1,by
   have h3:=(gQ h).2.2;injection h3 with h3;injection h3 with h3;injection h3 with h3;injection h3 with h3;rw [(PySem.W.Z.eqB_iff _ _).mpr h3]
   rfl⟩⟩
theorem oW{row r:MV}(hr:Sh row)(h:Sh r)(hn:r≠row):bP r row=some false:=by
 obtain⟨b,e,hb⟩:=kc h hr
 cases b with
 |false=>exact e
 |true=>exact absurd (hb.mp rfl) hn
theorem xg{row:MV}(hr:Sh row):bP row row=some true:=
 let ⟨_,e,hb⟩:=kc hr hr
 e.trans (congrArg some (hb.mpr rfl))
theorem mq{row:MV}(hr:Sh row):∀(k:Nat) {l:List MV},(∀r ∈ l,Sh r)→row ∉ l→pB row (eQ k l)=some none
 |k,[],_,_=>rfl
 |k,r::l,h,hn=>by
  show ob (bP r row) _=_
  rw [oW hr (h r (.head _)) fun q=>hn (q ▸ .head _)]
  exact mq hr (k+1) (fun r hr=>h r (.tail _ hr)) fun q=>hn (.tail _ q)
theorem mv{row:MV}(hr:Sh row):∀(k:Nat) {l:List MV} {j:Nat},(∀r ∈ l,Sh r)→l.Nodup→l[j]? =some row→pB row (eQ k l)=some (some (.int (.ofNat (k+j))))
 |k,[],j,_,_,h=>nomatch h
 |k,r::l,0,h,_,hj=>by
  obtain rfl:=oiZ (show some r=some row from hj)
  show ob (bP r r) _=_
  rw [xg hr];rfl
 |k,r::l,j+1,h,hn,hj=>by
  have hj:l[j]? =some row:=hj
  show ob (bP r row) _=_
  rw [oW hr (h r (.head _)) fun q=>(List.nodup_cons.mp hn).1 (q ▸List.mem_of_getElem? hj)]
  exact (mv hr (k+1) (fun r hr=>h r (.tail _ hr)) (List.nodup_cons.mp hn).2 hj).trans (by rw [Nat.add_right_comm];rfl)
theorem mw{row:MV}(hr:Sh row)(v:MV):∀(k:Nat) {l:List MV},(∀r ∈ l,Sh r)→row ∉ l→iP row v (eQ k l)=some (eQ k l++[(row,v)])
 |k,[],_,_=>rfl
 |k,r::l,h,hn=>by
  show ob (bP r row) _=_
  rw [oW hr (h r (.head _)) fun q=>hn (q ▸ .head _)]
  show (iP row v (eQ (k+1) l)).map _=_
  rw [mw hr v (k+1) (fun r hr=>h r (.tail _ hr)) fun q=>hn (.tail _ q)]
  rfl
theorem mx(row:MV):∀(k:Nat) (l:List MV),eQ k (l++[row])=eQ k l++[(row,.int (.ofNat (k+l.length)))]
 |k,[]=>rfl
 |k,r::l=>by
  show (r,MV.int k)::eQ (k+1) (l++[row])=(r,MV.int k)::(eQ (k+1) l++_)
  rw [mx row (k+1) l]
  congr 5
  show Int.ofNat (k+1+l.length)=Int.ofNat (k+(l.length+1))
  congr 1;lia
theorem pv:∀(k:Nat) (l:List MV),(eQ k l).length=l.length
 |k,[]=>rfl
 |k,r::l=>congrArg Nat.succ (pv (k+1) l)
theorem ie{row:MV}(hr:Sh row):jU row=true:=by cases hr <;>rfl
theorem jh{α:Type}:∀{E A:List α},E.Nodup→(∀x ∈ E,x ∈ A)→E.length≤A.length
 |[],A,_,_=>Nat.zero_le _
 |x::E,A,hn,hs=>by
  obtain⟨A1,A2,rfl⟩:=List.append_of_mem (hs x (.head _));have hn:=List.nodup_cons.mp hn
  have:=jh (E:=E) (A:=A1++A2) hn.2 fun y hy=>by
   have:=hs y (.tail _ hy);simp only [yoZ,yhZ]at this ⊢;rcases this with h|rfl|h
   ·exact .inl h
   ·exact absurd hy hn.1
   ·exact .inr h
  simp only [ynZ,List.length_cons]at this ⊢
  lia
noncomputable def allRows:List MV:=([4,5,8,9,11].flatMap fun (t:Int)=>(List.range 25).map fun (i:Nat)=>MV.tup [.int t,.int (Int.ofNat i)])++(List.range 25).map fun (i:Nat)=>MV.tup [.int 2,.int 66,.tup [.int (Int.ofNat i)]]
theorem xh{r:MV}(h:mF r):r ∈ allRows:=match h with
 | .two h h1=>mlZ _ (List.mem_flatMap.mpr ⟨_,h,List.mem_map.mpr ⟨_,mgZ h1,rfl⟩⟩)
 | .box h1=>mrZ _ (List.mem_map.mpr ⟨_,mgZ h1,rfl⟩)
theorem my:allRows.length=150:=by kernel_rfl
theorem QT{rows:List (Int×MV)}{dyn:List MV}{ks:List (Bool×Int)}{E:List MV}{D W O:List Int}(t:TabE rows dyn ks E D W O):E.length≤150:=
 leZ (jh t.nd fun r hr=>xh (t.ok r hr).1) (Nat.le_of_eq my)
def QU(v:MV):Int:=match v with
 | .tup vs=>match vs with
  |[]=>0
  |a::r=>match r with
   |[]=>0
   |b::_=>((b8 a).getD 0) * 1000+(b8 b).getD 0
 |_=>0
theorem uT:rows0.Nodup:=List.Pairwise.of_map QU (fun a b h e=>h (e ▸rfl)) (by decide+kernel:(rows0.map QU).Pairwise (· ≠·))
theorem xi{rows:List (Int×MV)}{dyn:List MV}{ks:List (Bool×Int)}{E:List MV}{D W O:List Int}(t:TabE rows dyn ks E D W O):(rows0++E).Nodup:=
 List.nodup_append.mpr ⟨uT,t.nd,fun a ha b hb e=>(t.ok b hb).2 (e ▸ha)⟩
theorem ke{rows:List (Int×MV)}{dyn:List MV}{ks:List (Bool×Int)}{E:List MV}{D W O:List Int}(t:TabE rows dyn ks E D W O):∀r ∈ rows0++E,Sh r:=fun r hr=>(maZ hr).elim (mm r) fun h=>k8 (t.ok r h).1
noncomputable def rS:FI:=⟨83,sm 43 2⟩
def bw(k:Nat):List Stmt:=(fB (sm 43 2)).drop k
def cv:Cx:=(fS (sm 43 2)).names
def putL(row:MV):Loc:=[(sO "self",.ref 0),(sO "row",row)]
def uU(row:MV)(v:MV):Loc:=[(sO "self",.ref 0),(sO "row",row),(sO "found",v)]
def putN(row:MV)(dep wgt lev inn:Int)(k:Nat):Loc:=[(sO "self",.ref 0),(sO "row",row),(sO "found",.int (-1)),(sO "depth",.int dep),(sO "weight",.int wgt),(sO "opened",.int 0),(sO "level",.int lev),(sO "inner",.int inn),(sO "k",.int (.ofNat k))]
def eI(E:List MV)(D W O:List Int):MS:=⟨bH 0 E D W O,[],aD,aD⟩
noncomputable def Vu(r:MR)(f:MS→MR):MR:=match r with
 |some (_,st)=>f st
 |none=>none
noncomputable def Vv(r:MR)(f:MV→MS→MR):MR:=match r with
 |some (v,st)=>f v st
 |none=>none
noncomputable def QV(r:Option (Option MV))(d:MV)(st:MS):MR:=match r with
 |some (some v)=>some (v,st)
 |some none=>some (d,st)
 |none=>none
noncomputable def QW:List Stmt→xpZ
 | .Expr e _::_=>e
 |_=>.Constant .none 0 ⟨0,0,0,0⟩
noncomputable def Zg:List Stmt→Pos
 | .Expr _ p::_=>p
 |_=>⟨0,0,0,0⟩
theorem dK{O:aX}{n d:Nat}{cx:Cx}{ss tl:List Stmt}{K:List Itm}{zl:Loc}{st:MS}{r:MR}(h:ss=.Expr (QW ss) (Zg ss)::tl)(hc:dX (QW ss)=true)(he:(aA O n d).ev cx zl st (QW ss)=r):(aA O (n+1) d).run cx (.stm ss::K) zl st=Vu r (fun st=>(aA O n d).run cx (.stm tl::K) zl st):=by
 subst he;generalize QW ss=e at h hc ⊢;generalize Zg ss=p at h;subst h
 show gd (dX e) (pb ((aA O n d).ev cx zl st e) fun _ st=>(aA O n d).run cx (.stm tl::K) zl st)=_
 rw [hc]
 cases (aA O n d).ev cx zl st e with
 |none=>rfl
 |some r=>rfl
noncomputable def dj:List Stmt→xpZ
 | .Assign [t] _ _::_=>t
 |_=>.Constant .none 0 ⟨0,0,0,0⟩
noncomputable def bY:List Stmt→xpZ
 | .Assign _ e _::_=>e
 |_=>.Constant .none 0 ⟨0,0,0,0⟩
noncomputable def wD:List Stmt→Pos
 | .Assign _ _ p::_=>p
 |_=>⟨0,0,0,0⟩
theorem a8{O:aX}{n d:Nat}{cx:Cx}{ss tl:List Stmt}{K:List Itm}{zl zu:Loc}{st zz st2:MS}{v:MV}(h:ss=.Assign [dj ss] (bY ss) (wD ss)::tl)(hc:jX (dj ss) (bY ss)=true)(he:(aA O n d).ev cx zl st (bY ss)=some (v,zz))
  (ha:bL (aA O n d) cx zl zz (dj ss) v=some (zu,st2)):(aA O (n+1) d).run cx (.stm ss::K) zl st=(aA O n d).run cx (.stm tl::K) zu st2:=by
 generalize bY ss=e at h hc he;generalize dj ss=t at h hc ha;generalize wD ss=p at h;subst h
 show gd (jX t e) (pb ((aA O n d).ev cx zl st e) fun v st=>pb (bL (aA O n d) cx zl st t v) fun zl st=>(aA O n d).run cx (.stm tl::K) zl st)=_
 rw [hc,he]
 show pb (bL (aA O n d) cx zl zz t v) _=_
 rw [ha];rfl
def bx(R:List MV)(IX:List (MV×MV))(DL WL OL:List MV):MS:=⟨[.inst 86 1,.idict 86 (ktN.map fun p=>(p.1,.ref (0+p.2))),.list R,.dict IX,.list DL,.list WL,.list OL],[],2,2⟩
section
variable(E:List MV)(D W O:List Int)(row:MV)(n d N:Nat)
theorem A5:(aA aC (n+61) (d+1)).cal rS [.ref 0,row] (eI E D W O)=aL (eI E D W O) ((aA aC (n+60) d).run cv [.stm (bw 0)] (putL row) (eI E D W O)):=by kernel_rfl
theorem A6:(aA aC (n+60) d).run cv [.stm (bw 0)] (putL row) (eI E D W O)=Vv (QV (gp row (eQ 0 (rows0++E))) (.int (-1)) (eI E D W O)) (fun v st=>(aA aC (n+59) d).run cv [.stm (bw 1)] (uU row v) st):=by kernel_rfl
theorem QX:(aA aC (n+59) d).run cv [.stm (bw 1)] (uU row (.int (.ofNat N))) (eI E D W O)=some (.int (.ofNat N),eI E D W O):=by kernel_rfl
variable(dep wgt lev inn:Int)(k:Nat)
theorem fL{n:Nat}(h:n < 1048576):Uv n=true:=blZ h
theorem Gd(hl:(rows0++E).length < 1048576):(aA aC (n+36) d).run cv [.stm (bw 12)] (putN row dep wgt lev inn k) (eI E D W O)=(aA aC (n+35) d).run cv [.stm (bw 13)] (putN row dep wgt lev inn k) (bx (rows0++E++[row]) (eQ 0 (rows0++E)) (deps0++D.map .int) (wgts0++W.map .int) (opns0++O.map .int)):=by
 refine (dK (r:=fy (rows0++E).length (some (.none,bx (rows0++E++[row]) (eQ 0 (rows0++E)) (deps0++D.map .int) (wgts0++W.map .int) (opns0++O.map .int)))) (tl:=bw 13) (by kernel_rfl) (by kernel_rfl) (by kernel_rfl)).trans ?_
 unfold fy;rw [fL hl];rfl
variable(R:List MV)(IX:List (MV×MV))(DL WL OL:List MV)
theorem Ge{IX':List (MV×MV)}(h:lx (bx R IX DL WL OL) (.ref 3) row (.int (.ofNat k))=some (bx R IX' DL WL OL)):(aA aC (n+35) d).run cv [.stm (bw 13)] (putN row dep wgt lev inn k) (bx R IX DL WL OL)=(aA aC (n+34) d).run cv [.stm (bw 14)] (putN row dep wgt lev inn k) (bx R IX' DL WL OL):=by
 refine a8 (v:=.int (.ofNat k)) (zz:=bx R IX DL WL OL) (tl:=bw 14) (by kernel_rfl) (by kernel_rfl) (by kernel_rfl) ?_
 have e:bL (aA aC (n+34) d) cv (putN row dep wgt lev inn k) (bx R IX DL WL OL) (dj (bw 13)) (.int (.ofNat k))=(lx (bx R IX DL WL OL) (.ref 3) row (.int (.ofNat k))).map fun st=>(putN row dep wgt lev inn k,st):=by kernel_rfl
 rw [e,h];rfl
theorem Gf(hl:DL.length < 1048576):(aA aC (n+34) d).run cv [.stm (bw 14)] (putN row dep wgt lev inn k) (bx R IX DL WL OL)=(aA aC (n+33) d).run cv [.stm (bw 15)] (putN row dep wgt lev inn k) (bx R IX (DL++[.int dep]) WL OL):=by
 refine (dK (r:=fy DL.length (some (.none,bx R IX (DL++[.int dep]) WL OL))) (tl:=bw 15) (by kernel_rfl) (by kernel_rfl) (by kernel_rfl)).trans ?_
 unfold fy;rw [fL hl];rfl
theorem Gg(hl:WL.length < 1048576):(aA aC (n+33) d).run cv [.stm (bw 15)] (putN row dep wgt lev inn k) (bx R IX DL WL OL)=(aA aC (n+32) d).run cv [.stm (bw 16)] (putN row dep wgt lev inn k) (bx R IX DL (WL++[.int wgt]) OL):=by
 refine (dK (r:=fy WL.length (some (.none,bx R IX DL (WL++[.int wgt]) OL))) (tl:=bw 16) (by kernel_rfl) (by kernel_rfl) (by kernel_rfl)).trans ?_
 unfold fy;rw [fL hl];rfl
theorem Gh(hl:OL.length < 1048576):(aA aC (n+32) d).run cv [.stm (bw 16)] (putN row dep wgt lev inn k) (bx R IX DL WL OL)=(aA aC (n+31) d).run cv [.stm (bw 17)] (putN row dep wgt lev inn k) (bx R IX DL WL (OL++[.int 0])):=by
 refine (dK (r:=fy OL.length (some (.none,bx R IX DL WL (OL++[.int 0])))) (tl:=bw 17) (by kernel_rfl) (by kernel_rfl) (by kernel_rfl)).trans ?_
 unfold fy;rw [fL hl];rfl
theorem Gi:(aA aC (n+31) d).run cv [.stm (bw 17)] (putN row dep wgt lev inn k) (bx R IX DL WL OL)=some (.int (.ofNat k),bx R IX DL WL OL):=by kernel_rfl
end
def aM(row:MV):Prop:=∃(dep wgt lev inn:Int) (g:Nat),∀(E:List MV) (D W O:List Int) (n d:Nat),(aA aC (n+(59+g)) (d+6)).run cv [.stm (bw 1)] (uU row (.int (-1))) (eI E D W O)=(aA aC (n+36) (d+6)).run cv [.stm (bw 12)] (putN row dep wgt lev inn (rows0++E).length) (eI E D W O)
theorem xj:aM (.tup [.int 5,.int 16]):=⟨1,2,0,16,0,fun E D W O n d=>by kernel_rfl⟩
theorem xk:aM (.tup [.int 5,.int 17]):=⟨1,2,0,17,0,fun E D W O n d=>by kernel_rfl⟩
theorem xl:aM (.tup [.int 5,.int 18]):=⟨2,3,0,18,1,fun E D W O n d=>by kernel_rfl⟩
theorem xm:aM (.tup [.int 5,.int 19]):=⟨1,2,0,19,0,fun E D W O n d=>by kernel_rfl⟩
theorem xn:aM (.tup [.int 5,.int 21]):=⟨1,2,0,21,0,fun E D W O n d=>by kernel_rfl⟩
theorem xo:aM (.tup [.int 5,.int 22]):=⟨1,2,0,22,0,fun E D W O n d=>by kernel_rfl⟩
theorem xp:aM (.tup [.int 5,.int 23]):=⟨1,2,0,23,0,fun E D W O n d=>by kernel_rfl⟩
theorem xq:aM (.tup [.int 9,.int 16]):=⟨1,2,0,16,0,fun E D W O n d=>by kernel_rfl⟩
theorem xr:aM (.tup [.int 9,.int 17]):=⟨1,2,0,17,0,fun E D W O n d=>by kernel_rfl⟩
theorem xu:aM (.tup [.int 9,.int 18]):=⟨2,3,0,18,1,fun E D W O n d=>by kernel_rfl⟩
theorem xw:aM (.tup [.int 9,.int 19]):=⟨1,2,0,19,0,fun E D W O n d=>by kernel_rfl⟩
theorem xx:aM (.tup [.int 9,.int 21]):=⟨1,2,0,21,0,fun E D W O n d=>by kernel_rfl⟩
theorem xy:aM (.tup [.int 9,.int 22]):=⟨1,2,0,22,0,fun E D W O n d=>by kernel_rfl⟩
theorem xz:aM (.tup [.int 9,.int 23]):=⟨1,2,0,23,0,fun E D W O n d=>by kernel_rfl⟩
theorem uV:aM (.tup [.int 11,.int 16]):=⟨1,2,0,16,0,fun E D W O n d=>by kernel_rfl⟩
theorem uX:aM (.tup [.int 11,.int 17]):=⟨1,2,0,17,0,fun E D W O n d=>by kernel_rfl⟩
theorem uY:aM (.tup [.int 11,.int 18]):=⟨2,3,0,18,1,fun E D W O n d=>by kernel_rfl⟩
theorem u3:aM (.tup [.int 11,.int 19]):=⟨1,2,0,19,0,fun E D W O n d=>by kernel_rfl⟩
theorem ua:aM (.tup [.int 11,.int 21]):=⟨1,2,0,21,0,fun E D W O n d=>by kernel_rfl⟩
theorem ub:aM (.tup [.int 11,.int 22]):=⟨1,2,0,22,0,fun E D W O n d=>by kernel_rfl⟩
theorem uc:aM (.tup [.int 11,.int 23]):=⟨1,2,0,23,0,fun E D W O n d=>by kernel_rfl⟩
theorem yA:aM (.tup [.int 4,.int 16]):=⟨2,2,1,16,1,fun E D W O n d=>by kernel_rfl⟩
theorem yB:aM (.tup [.int 4,.int 17]):=⟨2,2,1,17,1,fun E D W O n d=>by kernel_rfl⟩
theorem yC:aM (.tup [.int 4,.int 18]):=⟨3,3,1,18,1,fun E D W O n d=>by kernel_rfl⟩
theorem yD:aM (.tup [.int 4,.int 19]):=⟨2,2,1,19,1,fun E D W O n d=>by kernel_rfl⟩
theorem yE:aM (.tup [.int 4,.int 21]):=⟨2,2,1,21,1,fun E D W O n d=>by kernel_rfl⟩
theorem yF:aM (.tup [.int 4,.int 22]):=⟨2,2,1,22,1,fun E D W O n d=>by kernel_rfl⟩
theorem yG:aM (.tup [.int 4,.int 23]):=⟨2,2,1,23,1,fun E D W O n d=>by kernel_rfl⟩
theorem yH:aM (.tup [.int 8,.int 21]):=⟨1,2,0,21,0,fun E D W O n d=>by kernel_rfl⟩
theorem yI:aM (.tup [.int 2,.int 66,.tup [.int 16]]):=⟨2,2,1,16,1,fun E D W O n d=>by kernel_rfl⟩
theorem yJ:aM (.tup [.int 2,.int 66,.tup [.int 17]]):=⟨2,2,1,17,1,fun E D W O n d=>by kernel_rfl⟩
theorem yK:aM (.tup [.int 2,.int 66,.tup [.int 18]]):=⟨3,3,1,18,1,fun E D W O n d=>by kernel_rfl⟩
theorem yL:aM (.tup [.int 2,.int 66,.tup [.int 19]]):=⟨2,2,1,19,1,fun E D W O n d=>by kernel_rfl⟩
theorem yM:aM (.tup [.int 2,.int 66,.tup [.int 21]]):=⟨2,2,1,21,1,fun E D W O n d=>by kernel_rfl⟩
theorem yN:aM (.tup [.int 2,.int 66,.tup [.int 22]]):=⟨2,2,1,22,1,fun E D W O n d=>by kernel_rfl⟩
theorem yO:aM (.tup [.int 2,.int 66,.tup [.int 23]]):=⟨2,2,1,23,1,fun E D W O n d=>by kernel_rfl⟩
theorem yP:aM (.tup [.int 2,.int 66,.tup [.int 13]]):=⟨2,2,1,13,1,fun E D W O n d=>by kernel_rfl⟩
theorem Gj:aM (.tup [.int 8,.int 9]):=⟨1,2,0,9,0,fun E D W O n d=>by kernel_rfl⟩
noncomputable def iD:List MV:=[.tup [.int 5,.int 16],.tup [.int 5,.int 17],.tup [.int 5,.int 18],.tup [.int 5,.int 19],.tup [.int 5,.int 21],.tup [.int 5,.int 22],.tup [.int 5,.int 23],.tup [.int 9,.int 16],.tup [.int 9,.int 17],.tup [.int 9,.int 18],.tup [.int 9,.int 19],.tup [.int 9,.int 21],.tup [.int 9,.int 22],.tup [.int 9,.int 23],.tup [.int 11,.int 16],.tup [.int 11,.int 17],.tup [.int 11,.int 18],.tup [.int 11,.int 19],.tup [.int 11,.int 21],.tup [.int 11,.int 22],.tup [.int 11,.int 23],.tup [.int 4,.int 16],.tup [.int 4,.int 17],.tup [.int 4,.int 18],.tup [.int 4,.int 19],.tup [.int 4,.int 21],.tup [.int 4,.int 22],.tup [.int 4,.int 23],.tup [.int 8,.int 21],.tup [.int 2,.int 66,.tup [.int 16]],.tup [.int 2,.int 66,.tup [.int 17]],.tup [.int 2,.int 66,.tup [.int 18]],.tup [.int 2,.int 66,.tup [.int 19]],.tup [.int 2,.int 66,.tup [.int 21]],.tup [.int 2,.int 66,.tup [.int 22]],.tup [.int 2,.int 66,.tup [.int 23]],.tup [.int 2,.int 66,.tup [.int 13]],.tup [.int 8,.int 9]]
theorem oX:∀r ∈ iD,aM r:=fcZ ⟨xj,fcZ ⟨xk,fcZ ⟨xl,fcZ ⟨xm,fcZ ⟨xn,fcZ ⟨xo,fcZ ⟨xp,fcZ ⟨xq,fcZ ⟨xr,fcZ ⟨xu,fcZ ⟨xw,fcZ ⟨xx,fcZ ⟨xy,fcZ ⟨xz,fcZ ⟨uV,fcZ ⟨uX,fcZ ⟨uY,fcZ ⟨u3,fcZ ⟨ua,fcZ ⟨ub,fcZ ⟨uc,fcZ ⟨yA,fcZ ⟨yB,fcZ ⟨yC,fcZ ⟨yD,fcZ ⟨yE,fcZ ⟨yF,fcZ ⟨yG,fcZ ⟨yH,fcZ ⟨yI,fcZ ⟨yJ,fcZ ⟨yK,fcZ ⟨yL,fcZ ⟨yM,fcZ ⟨yN,fcZ ⟨yO,fcZ ⟨yP,fcZ ⟨Gj,fun _ h=>nomatch h⟩⟩⟩⟩⟩⟩⟩⟩⟩⟩⟩⟩⟩⟩⟩⟩⟩⟩⟩⟩⟩⟩⟩⟩⟩⟩⟩⟩⟩⟩⟩⟩⟩⟩⟩⟩⟩⟩
def yQ(row:MV)(l:List MV):Nat→Option (Option Nat):=@List.rec MV (fun _=>Nat→Option (Option Nat)) (fun _=>some none) (fun x _ ih k=>match e8 x with
 |some vs=>ob (bP (.tup vs) row) fun b=>match b with
  |true=>some (some k)
  |false=>ih (Nat.succ k)
 |none=>ih (Nat.succ k)) l
theorem qA{row x:MV}(hr:Sh row){l:List MV}{k:Nat}{C:Option (Option Nat)→Prop}(hs:∀vs,x=.tup vs→Sh (.tup vs))(h1:x=row→C (some (some k)))(h2:x≠row→C (yQ row l (Nat.succ k))):C (yQ row (x::l) k):=by
 show C (match e8 x with
 |some vs=>ob (bP (.tup vs) row) fun b=>match b with
  |true=>some (some k)
  |false=>yQ row l (Nat.succ k)
 |none=>yQ row l (Nat.succ k))
 cases ht:e8 x with
 |some vs=>
  obtain rfl:=di ht;obtain⟨b,e,hb⟩:=kc (hs vs rfl) hr
  show C (ob (bP (.tup vs) row) _)
  rw [e]
  cases b with
  |true=>exact h1 (hb.mp rfl)
  |false=>exact h2 fun q=>Fz (hb.mpr q).symm
 |none=>
  refine h2 fun q=>?_
  subst q
  cases hr <;>exact nomatch ht
theorem fg{row:MV}(hr:Sh row):∀{l:List MV} {k j:Nat},(∀vs,.tup vs ∈ l→Sh (.tup vs))→yQ row l k=some (some j)→∃i,j=k+i∧l[i]? =some row
 |[],k,j,_,h=>nomatch h
 |x::l,k,j,hs,h=>by
  revert h
  refine qA (C:=fun r=>r=some (some j)→∃i,j=k+i∧(x::l)[i]? =some row) hr (fun vs e=>hs vs (e ▸ .head _)) (fun q h=>⟨0,(oiZ (oiZ h)).symm,congrArg some q⟩) fun _ h=>?_
  obtain⟨i,h1,h2⟩:=fg hr (fun vs hv=>hs vs (.tail _ hv)) h
  exact⟨i+1,h1.trans (Nat.succ_add k i),h2⟩
theorem ig{row:MV}(hr:Sh row):∀{l:List MV} {k:Nat},(∀vs,.tup vs ∈ l→Sh (.tup vs))→yQ row l k=some none→row ∉ l
 |[],k,_,h=>ygZ
 |x::l,k,hs,h=>by
  revert h
  refine qA (C:=fun r=>r=some none→row ∉ x::l) hr (fun vs e=>hs vs (e ▸ .head _)) (fun q h=>nomatch oiZ h) fun hx h q=>?_
  rcases mcZ q with q|q
  ·exact hx q.symm
  ·exact ig hr (fun vs hv=>hs vs (.tail _ hv)) h q
def UE(v:MV):Option Unit:=ob (e8 v) fun vs=>aI vs fun _ r=>aI r fun _ r=>match r with
 |[]=>some ()
 |c::r=>aE r (ob (e8 c) fun us=>match us with
  |[]=>some ()
  |z::r=>aE r (ob (b8 z) fun _=>some ()))
theorem fM{r:MV}:Al (UE r) fun _=>Sh r:=by
 refine .ob fun vs hv u e=>?_
 obtain rfl:=di hv
 refine wY (P:=fun vs=>Sh (.tup vs)) (fun x l=>wY (P:=fun l=>Sh (.tup (.int x::l))) (fun y l e=>?_) l) vs e
 cases l with
 |nil=>exact .a x y
 |cons c l=>
  refine ga (P:=fun l=>Sh (.tup (.int x::.int y::c::l))) (fun e=>?_) l e
  obtain⟨us,hc,e⟩:=bV e;obtain rfl:=di hc
  cases us with
  |nil=>exact .b x y
  |cons z us=>
   refine ga (P:=fun us=>Sh (.tup [.int x,.int y,.tup (z::us)])) (fun e=>?_) us e
   obtain⟨k,hz,e⟩:=bV e;obtain rfl:=bd hz;exact .c x y k
def ud(d:Nat)(args:List MV)(st:MS):MR:=UB args fun a row=>ob (fH a) fun i=>gd (Nat.beq i 2) (ob (aH st.H 2) fun o=>gd (pu o) (gd (Nat.ble 7 d) (ob (UE row) fun _=>ob (yQ row kY 0) fun r=>match r with
 |some j=>some (.int (.ofNat j),st)
 |none=>ob (yQ row st.dyn 0) fun r=>match r with
  |some t=>some (.kd t,st)
  |none=>ob (yQ row iD 0) fun r=>match r with
   |some _=>some (.kd st.dyn.length,⟨st.H,st.dyn++[row],st.low,st.bas⟩)
   |none=>none)))
def Gk:aX:=fun a d args st=>match Nat.beq a 83 with
 |true=>ud d args st
 |false=>none
theorem fQ(t:Int)(i:Nat)(h:(t ∈ [(4:Int),5,8,9,11]∧i < 25):=by decide):mF (.tup [.int t,.int (.ofNat i)]):=.two h.1 h.2
theorem A7(i:Nat)(h:i < 25:=by decide):mF (.tup [.int 2,.int 66,.tup [.int (.ofNat i)]]):=.box h
theorem gj:∀r ∈ iD,mF r:=fcZ ⟨fQ 5 16,fcZ ⟨fQ 5 17,fcZ ⟨fQ 5 18,fcZ ⟨fQ 5 19,fcZ ⟨fQ 5 21,fcZ ⟨fQ 5 22,fcZ ⟨fQ 5 23,fcZ ⟨fQ 9 16,fcZ ⟨fQ 9 17,fcZ ⟨fQ 9 18,fcZ ⟨fQ 9 19,fcZ ⟨fQ 9 21,fcZ ⟨fQ 9 22,fcZ ⟨fQ 9 23,fcZ ⟨fQ 11 16,fcZ ⟨fQ 11 17,fcZ ⟨fQ 11 18,fcZ ⟨fQ 11 19,fcZ ⟨fQ 11 21,fcZ ⟨fQ 11 22,fcZ ⟨fQ 11 23,fcZ ⟨fQ 4 16,fcZ ⟨fQ 4 17,fcZ ⟨fQ 4 18,fcZ ⟨fQ 4 19,fcZ ⟨fQ 4 21,fcZ ⟨fQ 4 22,fcZ ⟨fQ 4 23,fcZ ⟨fQ 8 21,fcZ ⟨A7 16,fcZ ⟨A7 17,fcZ ⟨A7 18,fcZ ⟨A7 19,fcZ ⟨A7 21,fcZ ⟨A7 22,fcZ ⟨A7 23,fcZ ⟨A7 13,fcZ ⟨fQ 8 9,fun _ h=>nomatch h⟩⟩⟩⟩⟩⟩⟩⟩⟩⟩⟩⟩⟩⟩⟩⟩⟩⟩⟩⟩⟩⟩⟩⟩⟩⟩⟩⟩⟩⟩⟩⟩⟩⟩⟩⟩⟩⟩
theorem gR{rows:List (Int×MV)}{dyn:List MV}{ks:List (Bool×Int)}{E:List MV}{D W O:List Int}(t:TabE rows dyn ks E D W O){row:MV}(hs:Sh row){N:Nat}(h:(rows0++E)[N]? =some row)(d:Nat):
  (aA aC 61 (d+7)).cal rS [.ref 0,row] ⟨bH 0 E D W O,[],aD,aD⟩=some (.int (.ofNat N),eI E D W O):=by
 have h1:=A5 E D W O row 0 (d+6);have h2:=A6 E D W O row 0 (d+6);have h3:=QX E D W O row 0 (d+6) N
 have hk:gp row (eQ 0 (rows0++E))=some (some (.int (.ofNat N))):=by
  unfold gp;rw [ie hs];have:=mv hs 0 (ke t) (xi t) h;rw [Nat.zero_add]at this;exact this
 rw [hk]at h2
 exact h1.trans (by rw [h2];show aL _ (((aA aC (0+59) (d+6)).run cv [.stm (bw 1)] (uU row (.int (.ofNat N))) (eI E D W O)))=_;rw [h3];rfl)
theorem yR{rows:List (Int×MV)}{dyn:List MV}{ks:List (Bool×Int)}{E:List MV}{D W O:List Int}(t:TabE rows dyn ks E D W O){row:MV}(hs:Sh row)(hp:aM row)(h:row ∉ rows0++E)(d:Nat):
  ∃g dep wgt st2,(aA aC (61+g) (d+7)).cal rS [.ref 0,row] ⟨bH 0 E D W O,[],aD,aD⟩=some (.int (.ofNat (rows0++E).length),st2)∧st2.H.take 7=bH 0 (E++[row]) (D++[dep]) (W++[wgt]) (O++[0]):=by
 obtain⟨dep,wgt,lev,inn,g,hp⟩:=hp;have hE:=QT t
 have h25:rows0.length=25:=by rw [b6];rfl
 have hD:=t.dl;have hW:=t.wl;have hO:=t.ol
 have hd:deps0.length=25:=by decide+kernel
 have hw:wgts0.length=25:=by decide+kernel
 have ho:opns0.length=25:=by decide+kernel
 have h1:=A5 E D W O row g (d+6);have h2:=A6 E D W O row g (d+6)
 have hk:gp row (eQ 0 (rows0++E))=some none:=by
  unfold gp;rw [ie hs];exact mq hs 0 (ke t) h
 rw [hk]at h2;have h3:=hp E D W O 0 d
 have h4:=Gd E D W O row 0 (d+6) dep wgt lev inn (rows0++E).length (by rw [ynZ];lia)
 have hset:lx (bx (rows0++E++[row]) (eQ 0 (rows0++E)) (deps0++D.map .int) (wgts0++W.map .int) (opns0++O.map .int)) (.ref 3) row (.int (.ofNat (rows0++E).length))=some (bx (rows0++E++[row]) (eQ 0 (rows0++E)++[(row,.int (.ofNat (rows0++E).length))]) (deps0++D.map .int) (wgts0++W.map .int) (opns0++O.map .int)):=by
  have e:lx (bx (rows0++E++[row]) (eQ 0 (rows0++E)) (deps0++D.map .int) (wgts0++W.map .int) (opns0++O.map .int)) (.ref 3) row (.int (.ofNat (rows0++E).length))=fy (eQ 0 (rows0++E)).length ((sS row (.int (.ofNat (rows0++E).length)) (eQ 0 (rows0++E))).map fun es'=>bx (rows0++E++[row]) es' (deps0++D.map .int) (wgts0++W.map .int) (opns0++O.map .int)):=rfl
  rw [e];unfold fy sS
  rw [fL (by rw [pv,ynZ];lia),ie hs]
  show Option.map _ (iP row _ _)=_
  rw [mw hs _ 0 (ke t) h];rfl
 have h5:=Ge row 0 (d+6) dep wgt lev inn (rows0++E).length _ _ _ _ _ hset
 have h6:=Gf row 0 (d+6) dep wgt lev inn (rows0++E).length (rows0++E++[row]) (eQ 0 (rows0++E)++[(row,.int (.ofNat (rows0++E).length))]) (deps0++D.map .int) (wgts0++W.map .int) (opns0++O.map .int) (by rw [ynZ,List.length_map];lia)
 have h7:=Gg row 0 (d+6) dep wgt lev inn (rows0++E).length (rows0++E++[row]) (eQ 0 (rows0++E)++[(row,.int (.ofNat (rows0++E).length))]) (deps0++D.map .int++[.int dep]) (wgts0++W.map .int) (opns0++O.map .int) (by rw [ynZ,List.length_map];lia)
 have h8:=Gh row 0 (d+6) dep wgt lev inn (rows0++E).length (rows0++E++[row]) (eQ 0 (rows0++E)++[(row,.int (.ofNat (rows0++E).length))]) (deps0++D.map .int++[.int dep]) (wgts0++W.map .int++[.int wgt]) (opns0++O.map .int) (by rw [ynZ,List.length_map];lia)
 have h9:=Gi row 0 (d+6) dep wgt lev inn (rows0++E).length (rows0++E++[row]) (eQ 0 (rows0++E)++[(row,.int (.ofNat (rows0++E).length))]) (deps0++D.map .int++[.int dep]) (wgts0++W.map .int++[.int wgt]) (opns0++O.map .int++[.int 0]);have hall:=h4.trans (h5.trans (h6.trans (h7.trans (h8.trans h9))))
 have hrun:(aA aC (g+60) (d+6)).run cv [.stm (bw 0)] (putL row) (eI E D W O)=some (.int (.ofNat (rows0++E).length),bx (rows0++E++[row]) (eQ 0 (rows0++E)++[(row,.int (.ofNat (rows0++E).length))]) (deps0++D.map .int++[.int dep]) (wgts0++W.map .int++[.int wgt]) (opns0++O.map .int++[.int 0])):=by
  refine h2.trans ?_
  show (aA aC (g+59) (d+6)).run cv [.stm (bw 1)] (uU row (.int (-1))) (eI E D W O)=_
  rw [Nat.zero_add,Nat.add_comm 59 g]at h3;exact h3.trans hall
 refine⟨g,dep,wgt,bx (rows0++E++[row]) (eQ 0 (rows0++E)++[(row,.int (.ofNat (rows0++E).length))]) (deps0++D.map .int++[.int dep]) (wgts0++W.map .int++[.int wgt]) (opns0++O.map .int++[.int 0]),?_,?_⟩
 ·rw [Nat.add_comm 61 g];refine h1.trans ?_;rw [hrun];rfl
 ·show [MO.inst 86 1,.idict 86 (ktN.map fun p=>(p.1,.ref (0+p.2))),.list (rows0++E++[row]),.dict (eQ 0 (rows0++E)++[(row,.int (.ofNat (rows0++E).length))]),.list (deps0++D.map .int++[.int dep]),.list (wgts0++W.map .int++[.int wgt]),.list (opns0++O.map .int++[.int 0])]=bH 0 (E++[row]) (D++[dep]) (W++[wgt]) (O++[0])
  unfold bH
  rw [←List.append_assoc,mx,show 0+(rows0++E).length=(rows0++E).length from Nat.zero_add _,List.map_append,List.map_append,List.map_append,←List.append_assoc,←List.append_assoc,←List.append_assoc]
  rfl
theorem ue{rows:List (Int×MV)}{dyn:List MV}{ks:List (Bool×Int)}{E:List MV}{D W O:List Int}(t:TabE rows dyn ks E D W O):∀vs,.tup vs ∈ dyn→Sh (.tup vs):=fun vs h=>by
 obtain⟨i,hi⟩:=List.mem_iff_getElem?.mp h;obtain⟨j,h1,_⟩:=t.at' i vs hi;exact k8 (t.ok _ (moZ h1)).1
theorem Sh.tupE{r:MV}(h:Sh r):∃vs,r=.tup vs:=match h with
 | .a _ _=>⟨_,rfl⟩
 | .b _ _=>⟨_,rfl⟩
 | .c _ _ _=>⟨_,rfl⟩
theorem eS{ks:List (Bool×Int)}{k:Int}{i:Nat}{z:Int}(h:bQ (ks++[(true,k)]) i=some z):(i < ks.length∧bQ ks i=some z)∨(i=ks.length∧z=k):=by
 unfold bQ at h ⊢
 by_cases hi:i < ks.length
 ·rw [yaZ hi]at h;exact .inl ⟨hi,h⟩
 ·refine .inr ?_
  rw [yfZ (by lia)]at h
  cases q:i - ks.length with
  |zero=>
   rw [q]at h
   exact⟨by lia,(oiZ h).symm⟩
  |succ n=>
   rw [q]at h;exact aF h
theorem yS{α β:Type}{D:List α}{E:List β}{x:α}{y:β}(h:D.length=E.length):(D++[x]).length=(E++[y]).length:=by rw [ynZ,ynZ,h];rfl
theorem TabE.more{rows:List (Int×MV)}{dyn:List MV}{ks:List (Bool×Int)}{E E':List MV}{D W O D' W' O':List Int}(t:TabE rows dyn ks E D W O){row:MV}{j:Nat}(he:∀(i:Nat) (r:MV),E[i]? =some r→E'[i]? =some r)(hj:E'[j]? =some row)(hn:row ∉ dyn)(nd:E'.Nodup)(ok:∀r ∈ E',mF r∧r ∉ rows0)
  (dl:D'.length=E'.length) (wl:W'.length=E'.length) (ol:O'.length=E'.length) (kn:KN ks) (kb:KB ks):
  TabE rows (dyn++[row]) (ks++[(true,Int.ofNat (25+j))]) E' D' W' O'∧KN (ks++[(true,Int.ofNat (25+j))])∧KB (ks++[(true,Int.ofNat (25+j))]):=by
 have hsh:=(k8 (ok row (moZ hj)).1).tupE
 have old:∀i,bQ ks i=some (Int.ofNat (25+j))→False:=fun i h=>by
  obtain⟨vs,h1⟩:=t.tr i _ h;obtain⟨j',h2,h3⟩:=t.at' i vs h1;unfold bQ at h;rw [h3]at h;obtain rfl:=Nat.add_left_cancel (Int.ofNat.inj (oiZ h));exact hn (oiZ (hj.symm.trans (he _ _ h2)) ▸moZ h1)
 refine⟨⟨yS t.ln,fun i vs h=>?_,fun i k h=>?_,fun k r h=>?_,nd,ok,dl,wl,ol⟩,fun a b k h1 h2=>?_,fun i k h=>?_⟩
 ·by_cases hi:i < dyn.length
  ·rw [yaZ hi]at h;obtain⟨j',h1,h2⟩:=t.at' i vs h;refine⟨j',he _ _ h1,?_⟩
   rw [yaZ (by rw [t.ln];exact hi)];exact h2
  ·rw [yfZ (by lia)]at h
   cases q:i - dyn.length with
   |zero=>
    rw [q]at h;have h:row=.tup vs:=oiZ h;refine⟨j,h ▸hj,?_⟩
    rw [yfZ (by rw [t.ln];lia),t.ln,q];rfl
   |succ n=>rw [q]at h;exact aF h
 ·rcases eS h with⟨hi,h⟩|⟨hi,h⟩
  ·obtain⟨vs,h1⟩:=t.tr i k h
   exact⟨vs,by rw [yaZ (ybZ.mp h1).1];exact h1⟩
  ·obtain⟨vs,hvs⟩:=hsh;refine⟨vs,?_⟩;rw [hi,t.ln,yfZ (Nat.le_refl _),Nat.sub_self,hvs];rfl
 ·obtain⟨j',h1,h2⟩:=t.rw' k r h;exact⟨j',he _ _ h1,h2⟩
 ·rcases eS h1 with⟨ha,h1⟩|⟨ha,h1⟩ <;>rcases eS h2 with⟨hb,h2⟩|⟨hb,h2⟩
  ·exact kn a b k h1 h2
  ·exact (old a (h2 ▸h1)).elim
  ·exact (old b (h1 ▸h2)).elim
  ·lia
 ·rcases eS h with⟨_,h⟩|⟨_,h⟩
  ·exact kb i k h
  ·rw [h];show (25:Int)≤((25+j:Nat):Int);lia
theorem Sh.pz{r:MV}(h:Sh r):Pz r:=match h with
 | .a _ _=>gP 9 _ rfl
 | .b _ _=>gP 9 _ rfl
 | .c _ _ _=>gP 9 _ rfl
theorem yT(w:Wd)(d:Nat):eC w d (fun f args st=>Gk f.ad d args st):=by
 intro F S A hA hh R m X l st s f hf args zq v st' e n hv Q hQ
 have e:(match Nat.beq f.ad 83 with|true=>ud d args st|false=>none)=some (v,st'):=e
 cases h83:Nat.beq f.ad 83 with
 |false=>
  rw [h83]at e;exact aF e
 |true=>
  rw [h83]at e;have h83:=ebZ h83
  refine (?_:Al (ud d args st) fun p=>(∀v' s' l',Now w F.h₀ F.L m X l' p.2 s'→Ext l l'→Same s s'→l'.VR p.1 v'→Q (.ok (.ret v')) s')→codeAny (M w) A (.call (.ref f.ad) ⟨zq,[]⟩) Q s) _ e hQ
  clear e hQ
  refine .a2 fun a0 row ea=>.ob fun i hi=>.gd fun h2=>.ob fun o hk=>.gd fun hkt=>.gd fun hd=>.ob fun _ hsh=>?_
  subst ea;obtain rfl:=cf hi;obtain rfl:=ebZ h2;obtain rfl:=oU hkt;have hsh:=fM _ hsh;rw [aJ]at hk;obtain⟨d,rfl⟩:∃d',d=d'+7:=⟨d - 7,(Nat.sub_add_cancel (lbZ hd)).symm⟩;have h25:rows0.length=25:=b6 ▸rfl
  have at25:∀{E:List MV} {j:Nat} {r:MV},E[j]? =some r→(rows0++E)[25+j]? =some r:=fun {E j r} h=>by
   rw [yfZ (by rw [h25];exact Nat.le_add_right _ _),h25,Nat.add_sub_cancel_left];exact h
  obtain⟨_,_,rfl,hv0,hv⟩:=hv.consI;obtain⟨v1,_,rfl,hv1,hv⟩:=hv.consI;obtain rfl:=hv.nilI;obtain⟨a,rfl,ha⟩:=hv0.refI
  have zt:∀as',VRs as' [] l.im [row] [v1]:=fun as'=>.cons (VR.pz hv1 hsh.pz) .nil
  have r0sh:∀vs,MV.tup vs ∈ kY→Sh (.tup vs):=fun vs h=>mm _ (b6 ▸h)
  rw [h83]
  refine .ob fun r0 hj=>?_
  cases r0 with
  |some j=>
   refine .so fun hQ=>?_
   obtain⟨i,h1,h2⟩:=fg hsh r0sh hj;obtain rfl:i=j:=((Nat.zero_add i).symm.trans h1.symm)
   refine dJ (f:=rS) S hA hh R n hk (GJ _) ha zt fun E D W O t1=>?_
   refine⟨61,_,_,E,D,W,O,st.dyn,l.ks,gR t1 hsh (N:=i) ?_ d,rfl,t1,prZ,n.H.kn,n.H.kb,fun v' s' l' n' x y ek as2 ks2 r=>hQ v' s' l' n' x y (VR.pz r (.int _))⟩
   exact (yaZ (b6 ▸(ybZ.mp h2).1)).trans (b6 ▸h2)
  |none=>
   have hn0:row ∉ rows0:=b6 ▸ig hsh r0sh hj;have T:=(n.H.tab 2 hk).1;obtain⟨E0,D0,W0,O0,⟨t0,_⟩,_⟩:=T
   refine .ob fun r1 ht=>?_
   cases r1 with
   |some t=>
    refine .so fun hQ=>?_
    obtain⟨i,h1,h2⟩:=fg hsh (ue t0) ht;obtain rfl:i=t:=((Nat.zero_add i).symm.trans h1.symm);obtain⟨vs,rfl⟩:=hsh.tupE
    refine dJ (f:=rS) S hA hh R n hk (GJ _) ha zt fun E D W O t1=>?_
    obtain⟨j,g1,g2⟩:=t1.at' i vs h2
    refine⟨61,_,_,E,D,W,O,st.dyn,l.ks,gR t1 hsh (N:=25+j) (at25 g1) d,rfl,t1,prZ,n.H.kn,n.H.kb,fun v' s' l' n' x y ek as2 ks2 r=>hQ v' s' l' n' x y ?_⟩
    obtain⟨tok,rfl⟩:=r.intI;refine .kd tok ?_;rw [ek];unfold bQ;rw [g2]
   |none=>
    have hnd:=ig hsh (ue t0) ht
    refine .ob fun r2 hz=>?_
    cases r2 with
    |none=>exact .no
    |some z=>
     refine .so fun hQ=>?_
     have hmem:row ∈ iD:=by
      obtain⟨i,_,h2⟩:=fg hsh (fun vs h=>k8 (gj _ h)) hz
      exact moZ h2
     have hok:=gj _ hmem
     refine dJ (f:=rS) S hA hh R n hk (GJ _) ha zt fun E D W O t1=>?_
     have fin:∀{j:Nat} {ks':List (Bool×Int)} {l':LS} {v':Value} {as2:List Addr} {ks2:List (Bool×Int)},ks'=l.ks++[(true,Int.ofNat (25+j))]→l'.ks=ks'→VR as2 ks2 l'.im (.int (.ofNat (25+j))) v'→l'.VR (.kd st.dyn.length) v':=fun {j ks' l' v' as2 ks2} e1 e2 r=>by
      obtain⟨tok,rfl⟩:=r.intI;refine .kd tok ?_;rw [e2,e1];unfold bQ;rw [yfZ (Nat.le_of_eq t0.ln),t0.ln,Nat.sub_self];rfl
     by_cases hE:row ∈ E
     ·obtain⟨j,hj⟩:=List.mem_iff_getElem?.mp hE
      obtain⟨t2,kn2,kb2⟩:=t1.more (E':=E) (D':=D) (W':=W) (O':=O) (fun _ _ h=>h) hj hnd t1.nd t1.ok t1.dl t1.wl t1.ol n.H.kn n.H.kb
      exact⟨61,_,_,E,D,W,O,st.dyn++[row],_,gR t1 hsh (N:=25+j) (at25 hj) d,rfl,t2,paZ _ _,kn2,kb2,fun v' s' l' n' x y ek as2 ks2 r=>hQ v' s' l' n' x y (fin rfl ek r)⟩
     ·obtain⟨g,dep,wgt,st2,c1,c2⟩:=yR t1 hsh (oX _ hmem) (fun h=>(maZ h).elim hn0 hE) d
      have zr:(rows0++E).length=25+E.length:=by rw [ynZ,h25]
      rw [zr]at c1
      obtain⟨t2,kn2,kb2⟩:=t1.more (E':=E++[row]) (D':=D++[dep]) (W':=W++[wgt]) (O':=O++[0]) (j:=E.length) (fun i r h=>(yaZ (ybZ.mp h).1).trans h) (List.getElem?_concat_length ..) hnd
       (List.nodup_append.mpr ⟨t1.nd,List.nodup_cons.mpr ⟨ygZ,List.nodup_nil⟩,fun a ha b hb e=>hE (msZ hb ▸e ▸ha)⟩)
       (fun r hr=>(maZ hr).elim (t1.ok r) fun h=>msZ h ▸⟨hok,hn0⟩) (yS t1.dl) (yS t1.wl) (yS t1.ol) n.H.kn n.H.kb
      exact⟨61+g,_,_,E++[row],D++[dep],W++[wgt],O++[0],st.dyn++[row],_,c1,c2,t2,paZ _ _,kn2,kb2,fun v' s' l' n' x y ek as2 ks2 r=>hQ v' s' l' n' x y (fin rfl ek r)⟩
theorem yU:ah Gk:=by
 intro a d args st v st' e
 have e:(match Nat.beq a 83 with|true=>ud d args st|false=>none)=some (v,st'):=e
 cases h83:Nat.beq a 83 with
 |false=>
  rw [h83]at e;exact aF e
 |true=>
  rw [h83]at e
  refine (?_:Al (ud d args st) fun p=>Pres st p.2) _ e
  refine .a2 fun a0 row _=>.ob fun i _=>.gd fun _=>.ob fun o _=>.gd fun _=>.gd fun _=>.ob fun _ _=>.ob fun r0 _=>?_
  cases r0 with
  |some j=>exact .so Pres.rfl'
  |none=>
   refine .ob fun r1 _=>?_
   cases r1 with
   |some j=>exact .so Pres.rfl'
   |none=>
    refine .ob fun r2 _=>?_
    cases r2 with
    |some j=>exact .so ⟨lrZ _,lrZ _,fun _ _ _=>rfl,fun _ h _=>h⟩
    |none=>exact .no
noncomputable def ij:FI:=⟨230,st 63⟩
section
variable(E:List MV)(D W O:List Int)(d:Nat)
theorem QY(a:Int):(aA aC 60 (d+5)).cal ij [.ref 0,.int 24,.tup [.int a],.anyv] ⟨bH 0 E D W O,[],aD,aD⟩=some (.int a,eI E D W O):=by kernel_rfl
theorem Gl(k:Nat)(hk:k < 24):(aA aC 60 (d+5)).cal ij [.ref 0,.int (.ofNat k),.anyv,.anyv] ⟨bH 0 E D W O,[],aD,aD⟩=some (.int (.ofNat k),eI E D W O):=
 ai (List.range 24) (fun k=>(aA aC 60 (d+5)).cal ij [.ref 0,.int (.ofNat k),.anyv,.anyv] ⟨bH 0 E D W O,[],aD,aD⟩) (fun k=>some (.int (.ofNat k),eI E D W O)) (by kernel_rfl) k (mgZ hk)
end
def kf(d:Nat)(args:List MV)(st:MS):MR:=aV args fun a l=>aB dn l fun k l=>aV l fun ts l=>aV l fun ms l=>aE l (ob (fH a) fun i=>gd (Nat.beq i 2) (ob (aH st.H 2) fun o=>gd (pu o) (gd (Nat.ble 5 d) (match Nat.blt k 24 with
 |true=>some (.int (.ofNat k),st)
 |false=>gd (Nat.beq k 24) (ob (e8 ts) fun us=>PV us fun a=>ob (b8 a) fun a=>some (.int a,st))))))
theorem ji{d:Nat}{args:List MV}{st:MS}{P:List MV→MV×MS→Prop}(h:∀k ts ms,aH st.H 2=some .ktb→5≤d→k < 24→P [.ref 2,.int (.ofNat k),ts,ms] (.int (.ofNat k),st))
  (h1:∀a ms,aH st.H 2=some .ktb→5≤d→P [.ref 2,.int 24,.tup [.int a],ms] (.int a,st)):Al (kf d args st) fun p=>P args p:=by
 intro p e0
 refine GA (P:=fun l=>P l p) (fun a l=>wA (P:=fun l=>P (a::l) p) (c:=fun n=>.int (.ofNat n)) (fun _ _ h=>fV h) (fun _ k l _=>GA (P:=fun l=>P (a::.int (.ofNat k)::l) p) (fun ts l=>GA (P:=fun l=>P (a::.int (.ofNat k)::ts::l) p) (fun ms l=>ga (P:=fun l=>P (a::.int (.ofNat k)::ts::ms::l) p) (fun e=>?_) l) l) l) l) args e0
 clear e0;revert e;revert p
 refine Al.ob fun i hi=>.gd fun h2=>.ob fun o hk=>.gd fun hkt=>.gd fun hd=>?_
 obtain rfl:=cf hi;obtain rfl:=ebZ h2;obtain rfl:=oU hkt;have hd:=lbZ hd
 refine .bl (fun hb=>.so (h k ts ms hk hd (blt_iff.mp hb))) fun _=>.gd fun hb=>.ob fun us hu=>.a1 fun x hx=>.ob fun y hy=>.so ?_
 obtain rfl:=ebZ hb;obtain rfl:=di hu;subst hx;obtain rfl:=bd hy;exact h1 y ms hk hd
def oY:aX:=fun a d args st=>match Nat.beq a 230 with
 |true=>kf d args st
 |false=>none
theorem rT(w:Wd)(d:Nat):eC w d (fun f args st=>oY f.ad d args st):=by
 intro F S A hA hh R m X l st s f hf args zq v st' e n hv Q hQ
 have e:(match Nat.beq f.ad 230 with|true=>kf d args st|false=>none)=some (v,st'):=e
 cases h230:Nat.beq f.ad 230 with
 |false=>
  rw [h230]at e;exact aF e
 |true=>
  rw [h230]at e
  refine ji (P:=fun args p=>l.VRs args zq→(∀v' s' l',Now w F.h₀ F.L m X l' p.2 s'→Ext l l'→Same s s'→l'.VR p.1 v'→Q (.ok (.ret v')) s')→codeAny (M w) A (.call (.ref f.ad) ⟨zq,[]⟩) Q s) (fun k ts ms hk hd hb hv hQ=>?_) (fun a ms hk hd hv hQ=>?_) _ e hv hQ <;>(
   rw [aJ]at hk;rw [Nat.eq_of_beq_eq_true h230];obtain⟨d,rfl⟩:∃d',d=d'+5:=⟨d - 5,(Nat.sub_add_cancel hd).symm⟩;obtain⟨_,_,rfl,hv0,hv⟩:=hv.consI;obtain⟨_,_,rfl,hv1,hv⟩:=hv.consI;obtain⟨_,_,rfl,hv2,hv⟩:=hv.consI;obtain⟨_,_,rfl,hv3,hv⟩:=hv.consI;obtain rfl:=hv.nilI
   obtain⟨_,rfl,ha⟩:=hv0.refI)
  ·exact dJ (f:=ij) S hA hh R n hk (AP _) ha (args':=[.int (.ofNat k),.anyv,.anyv]) (fun as'=>.cons (VR.pz hv1 (.int _)) (.cons (.anyv hv2.handed) (.cons (.anyv hv3.handed) .nil))) fun E D W O t1=>
    ⟨60,_,_,E,D,W,O,st.dyn,l.ks,Gl E D W O d k hb,rfl,t1,prZ,n.H.kn,n.H.kb,fun v' s' l' n' x y ek as2 ks2 r=>hQ v' s' l' n' x y (VR.pz r (.int _))⟩
  ·exact dJ (f:=ij) S hA hh R n hk (AP _) ha (args':=[.int 24,.tup [.int a],.anyv]) (fun as'=>.cons (VR.pz hv1 (.int _)) (.cons (VR.pz hv2 (.tup (ff [a]))) (.cons (.anyv hv3.handed) .nil))) fun E D W O t1=>
    ⟨60,_,_,E,D,W,O,st.dyn,l.ks,QY E D W O d a,rfl,t1,prZ,n.H.kn,n.H.kb,fun v' s' l' n' x y ek as2 ks2 r=>hQ v' s' l' n' x y (VR.pz r (.int _))⟩
theorem rU:ah oY:=by
 intro a d args st v st' e
 have e:(match Nat.beq a 230 with|true=>kf d args st|false=>none)=some (v,st'):=e
 cases h:Nat.beq a 230 with
 |false=>
  rw [h]at e;exact aF e
 |true=>
  rw [h]at e
  exact ji (P:=fun _ p=>Pres st p.2) (fun _ _ _ _ _ _=>Pres.rfl') (fun _ _ _ _=>Pres.rfl') _ e
noncomputable def gk(O1 O2:aX):aX:=fun a d args st=>match O1 a d args st with
 |some r=>some r
 |none=>O2 a d args st
theorem ac{w:Wd}{O1 O2:aX}(h1:ak w O1)(h2:ak w O2):ak w (gk O1 O2):=by
 intro d F S A hA hh R m X l st s f hf args zq v st' e
 replace e:(match O1 f.ad d args st with|some r=>some r|none=>O2 f.ad d args st)=some (v,st'):=e
 cases q:O1 f.ad d args st with
 |some r=>
  rw [q]at e;exact h1 d F S A hA hh R m X l st s f hf args zq v st' (q.trans e)
 |none=>
  rw [q]at e;exact h2 d F S A hA hh R m X l st s f hf args zq v st' e
theorem ae{O1 O2:aX}(h1:ah O1)(h2:ah O2):ah (gk O1 O2):=by
 intro a d args st v st' e
 have e:(match O1 a d args st with|some r=>some r|none=>O2 a d args st)=some (v,st'):=e
 cases q:O1 a d args st with
 |some r=>
  rw [q]at e;exact h1 a d args st _ _ (q.trans e)
 |none=>
  rw [q]at e;exact h2 a d args st v st' e
def bB:aX:=gk Gc (gk Gk oY)
theorem bI(w:Wd):ak w bB:=ac (xd w) (ac (yT w) (rT w))
theorem bJ:ah bB:=ae xf (ae yU rU)
noncomputable def bg:List MV→List (Bool×Int)→List (Int×MV)
 | .tup vs::ds,p::ks=>(p.2,.tup vs)::bg ds ks
 |_::ds,_::ks=>bg ds ks
 |_,_=>[]
theorem gl{k:Int}{row:MV}:∀{dyn:List MV} {ks:List (Bool×Int)},(k,row) ∈ bg dyn ks→∃(t:Nat) (vs:List MV) (b:Bool),row=.tup vs∧dyn[t]? =some (.tup vs)∧ks[t]? =some (b,k)
 |[],ks,h=>by cases ks <;>cases h
 |d::ds,[],h=>by cases d <;>cases h
 |d::ds,p::ks,h=>by
  have tl:(k,row) ∈ bg ds ks→∃(t:Nat) (vs:List MV) (b:Bool),row=.tup vs∧(d::ds)[t]? =some (.tup vs)∧(p::ks)[t]? =some (b,k):=fun h=>by
   obtain⟨t,vs,b,h1,h2,h3⟩:=gl h
   exact⟨t+1,vs,b,h1,by simpa using h2,by simpa using h3⟩
  cases d with
  |tup vs=>
   rcases mcZ (show (k,row) ∈ (p.2,.tup vs)::bg ds ks from h)with h|h
   ·cases h;exact⟨0,vs,p.1,rfl,rfl,rfl⟩
   ·exact tl h
  |_=>exact tl h
theorem fN{vs:List MV}{b:Bool}{k:Int}:∀{dyn:List MV} {ks:List (Bool×Int)} {t:Nat},dyn[t]? =some (.tup vs)→ks[t]? =some (b,k)→(k,.tup vs) ∈ bg dyn ks
 |[],ks,t,h,_=>by simp at h
 |d::ds,[],t,_,h=>by simp at h
 |d::ds,p::ks,0,h1,h2=>by
  simp at h1 h2;subst h1;subst h2;exact .head _
 |d::ds,p::ks,t+1,h1,h2=>by
  have:=fN (dyn:=ds) (ks:=ks) (t:=t) (by simpa using h1) (by simpa using h2)
  cases d with
  |tup vs'=>exact .tail _ this
  |_=>exact this
theorem TabE.shut{rows:List (Int×MV)}{dyn:List MV}{ks:List (Bool×Int)}{E:List MV}{D W O:List Int}(t:TabE rows dyn ks E D W O):TabE (rows++bg dyn ks) [] [] E D W O:=
 ⟨rfl,fun i vs h=>by simp at h,fun i k h=>by unfold bQ at h;simp at h,fun k row h=>(maZ h).elim (t.rw' k row) fun h=>by
  obtain⟨i,vs,b,rfl,h2,h3⟩:=gl h;obtain⟨j,g1,g2⟩:=t.at' i vs h2;rw [h3]at g2;cases g2
  exact⟨j,g1,rfl⟩,t.nd,t.ok,t.dl,t.wl,t.ol⟩
theorem TabE.open'{rows:List (Int×MV)}{dyn:List MV}{ks:List (Bool×Int)}{E0:List MV}{D0 W0 O0:List Int}(t0:TabE rows dyn ks E0 D0 W0 O0){E:List MV}{D W O:List Int}(t:TabE (rows++bg dyn ks) [] [] E D W O):TabE rows dyn ks E D W O:=
 ⟨t0.ln,fun i vs h=>by
  obtain⟨j0,_,g2⟩:=t0.at' i vs h;obtain⟨j,h1,h2⟩:=t.rw' _ _ (mrZ _ (fN h g2))
  exact⟨j,h1,by rw [g2,h2]⟩,t0.tr,fun k row h=>t.rw' k row (mlZ _ h),t.nd,t.ok,t.dl,t.wl,t.ol⟩
section
variable{l:LS}{st:MS}
def ix(w:Wd)(k:Nat)(l:LS)(st:MS):Wd:=⟨w.w,(b9 k k st.H).zip (l.RL.take k),[],w.rows++bg st.dyn l.ks⟩
theorem Now.mkView(n:Now w h₀ L m X l st s){k:Nat}(hk9:9≤k)(hi:st.H[2]? =some .ktb)(hk:k≤st.H.length)(hp:∀i o,i < k→st.H[i]? =some o→(cu k o).plain=o.plain):IsView w (ix w k l st) k l st [] []:=by
 obtain⟨⟨E0,D0,W0,O0,⟨t0,_⟩,_⟩,_⟩:=n.H.tab 2 hi
 refine⟨rfl,rfl,hk,fun a b h=>by simp [ix]at h,KN.nil,KB.nil,fun i hik h=>?_,hp,fun E D W O t=>t.shut,fun E D W O t=>t0.open' t⟩
 obtain⟨⟨_,_,_,_,⟨_,h2⟩,_⟩,_⟩:=n.H.tab i h
 lia
theorem Now.base_take(n:Now w h₀ L m X l st s){k:Nat}{V:List MO}(hV:(w.B.map (·.1)).take k=V)(hl:V.length=k)(hb:k≤st.bas):st.H.take k=V∧k≤st.H.length:=by
 have get:∀i,i < k→st.H[i]? =V[i]? :=fun i hi=>by
  have h1:V[i]? =(w.B.map (·.1))[i]? :=by rw [←hV,ycZ hi]
  obtain⟨o,ho⟩:∃o,V[i]? =some o:=⟨_,yiZ (by lia)⟩
  rw [ho]at h1;rw [ydZ]at h1;obtain⟨b,Vs,hb2⟩:=ysZ.mp h1.symm;rw [ho,←hb2]
  exact (n.bq i b (by lia) Vs).1
 have zr:k≤st.H.length:=by
  refine Nat.le_of_not_lt fun h=>?_
  have:=get st.H.length h;rw [yjZ (Nat.le_refl _)]at this;have:=List.getElem?_eq_none_iff.mp this.symm
  lia
 refine⟨List.ext_getElem? fun i=>?_,zr⟩
 by_cases hi:i < k
 ·rw [ycZ hi];exact get i hi
 ·rw [yjZ (by simp;lia),yjZ (by lia)]
end
structure WP where
 home:Nat
 b1:Bool
 b2:Bool
 b5:Bool
 m1:Int
 m2:Int
 m3:Int
 m4:Int
 k0:Bool
 k1:Bool
 k2:Bool
 k3:Bool
 k4:Bool
 k5:Bool
 k6:Bool
 a5:Int
 a7:Int
 a9:Int
 a11:Int
 g:Nat
variable{W:WP}{b1:Nat}
noncomputable def aU(W:WP):Nat→Int
 |0=>1
 |1=>W.m1
 |2=>W.m2
 |3=>W.m3
 |4=>W.m4
 |_=>match W.home with
  |0=>1
  |1=>W.m1
  |2=>W.m2
  |3=>W.m3
  |_=>W.m4
def kg(W:WP)(i:Nat):MV:=.int (aU W i)
noncomputable def fC(W:WP):Nat→Bool
 |0=>W.k0
 |1=>W.k1
 |2=>W.k2
 |3=>W.k3
 |4=>W.k4
 |5=>W.k5
 |_=>W.k6
def A8(W:WP)(i:Nat):MV:=.int (match fC W i with|true=>8|false=>0)
noncomputable def uf(W:WP)(i:Nat):MV:=.int (match i with
 |0=>12
 |1=>match W.b1 with|true=>16|false=>12
 |2=>match W.b2 with|true=>17|false=>16
 |3=>18
 |4=>20
 |5=>match W.b5 with|true=>16|false=>12
 |_=>17)
noncomputable def mz(W:WP):MV:=.int (.ofNat (Nat.add 64 W.home))
noncomputable def accN(W:WP):Nat→Int
 |1=>4
 |2=>2
 |3=>5
 |4=>4
 |5=>W.a5
 |6=>3
 |7=>W.a7
 |8=>4
 |9=>W.a9
 |10=>1
 |11=>W.a11
 |12=>3
 |13=>2
 |14=>6
 |15=>1
 |16=>4
 |17=>6
 |18=>1
 |19=>1
 |20=>6
 |21=>3
 |22=>6
 |_=>0
def cG(W:WP)(i:Nat):MV:=.int (accN W i)
def nB(W:WP):List MV:=[kg W 0,kg W 1,kg W 2,kg W 3,kg W 4,kg W 5,kg W 6]
noncomputable def ik(W:WP):List MV:=[.bool W.k0,.bool W.k1,.bool W.k2,.bool W.k3,.bool W.k4,.bool W.k5,.bool W.k6]
noncomputable def oZ(W:WP):List MV:=[.int (-1),.int (match W.b1 with|true=>0|false=> -1),.int (match W.b2 with|true=>1|false=>0),.int 2,.int (-1),.int (match W.b5 with|true=>0|false=> -1),.int 1]
noncomputable def ug(W:WP):List MV:=[.int (-1),.int (-1),.int (-1),.int (-1),.int (-1),.int (.ofNat W.home),.int 5]
noncomputable def lQ(W:WP):MV:=match W.g with
 |0=>.tup [.int 1,.tup []]
 |1=>.tup [.int 2,.tup []]
 |2=>.tup [.int 4,.tup []]
 |3=>.tup [.int 0,.tup [.int 16]]
 |4=>.tup [.int 0,.tup [.int 24]]
 |_=>.tup [.int 4,.tup [.int 17]]
def qB(W:WP):List MV:=[.tup [.int 1,.int 0,cG W 1,.int 0,.bool true,.int 0],
 .tup [.int 2,.int 0,cG W 2,.int 0,.bool true,.int 0],
 .tup [.int 3,.int 0,cG W 3,.int 0,.bool true,.int 0],
 .tup [.int 4,.int 0,cG W 4,.int 1,.bool true,.int 0],
 .tup [.int 5,.int 0,cG W 5,.int 0,.bool true,.int 0],
 .tup [.int 6,.int 0,cG W 6,.int 0,.bool false,.int 0],
 .tup [.int 7,.int 1,cG W 7,.int 0,.bool true,.int 0],
 .tup [.int 8,.int 1,cG W 8,.int 0,.bool (!W.b1),.int 0],
 .tup [.int 9,.int 1,cG W 9,.int 1,.bool true,.int 0],
 .tup [.int 10,.int 1,cG W 10,.int 0,.bool false,.int 0],
 .tup [.int 11,.int 2,cG W 11,.int 0,.bool true,.int 1],
 .tup [.int 12,.int 2,cG W 12,.int 0,.bool true,.int 0],
 .tup [.int 13,.int 2,cG W 13,.int 1,.bool true,.int 0],
 .tup [.int 14,.int 3,cG W 14,.int 0,.bool false,.int 0],
 .tup [.int 15,.int 3,cG W 15,.int 0,.bool true,.int 0],
 .tup [.int 16,.int 3,cG W 16,.int 0,.bool true,.int 0],
 .tup [.int 17,.int 3,cG W 17,.int 0,.bool false,.int 0],
 .tup [.int 18,.int 4,cG W 18,.int 0,.bool false,.int 0],
 .tup [.int 19,.int 4,cG W 19,.int 0,.bool true,.int 0],
 .tup [.int 20,.int 4,cG W 20,.int 0,.bool true,.int 0],
 .tup [.int 21,.int 4,cG W 21,.int 1,.bool true,.int 0],
 .tup [.int 22,.int 0,cG W 22,.int 0,.bool false,.int 0]]
def Vw(tid:Int)(nm:String)(so:Int)(fl ba am ho:MV)(r:Nat→MV):MO:=.idict 282 [(sO "tid",.int tid),(sO "name",.str (sO nm)),(sO "sort",.int so),(sO "flags",fl),(sO "base",ba),(sO "ifaces",.anyv),(sO "params",r 100),(sO "variances",r 107),(sO "bounds",r 93),(sO "fields",.anyv),(sO "methods",r 79),(sO "asm",am),(sO "cctor",.int 0),(sO "under",.int (-1)),(sO "impls",r 86),(sO "props",.anyv),(sO "events",.anyv),(sO "finaliser",.int 0),(sO "home",ho)]
noncomputable def A9(_:Nat):MV:=.anyv
noncomputable def obV(j:Nat):MV:=match Nat.beq j 79 with|true=>.ref 114|false=>.anyv
def qC(W:WP)(i:Nat)(nm:String)(so:Int)(ho:MV)(r:Nat→MV):MO:=Vw (.ofNat (Nat.add i 64)) nm so (A8 W i) (uf W i) (kg W i) ho r
def iy(W:WP)(i:Nat)(ow:Int)(nm:String)(fl ng:Int)(gb:MV):MO:=.idict 303 [(sO "mid",.int (.ofNat i)),(sO "owner",.int ow),(sO "name",.str (sO nm)),(sO "access",cG W i),(sO "flags",.int fl),(sO "ngen",.int ng),(sO "gnames",.anyv),(sO "gbounds",gb),(sO "ret",.int 0),(sO "params",.tup []),(sO "pnames",.tup []),(sO "pflags",.tup []),(sO "body",.none),(sO "native",.int 0)]
noncomputable def QZ:MO:=.list [.none,.ref 24,.none,.none,.none,.none,.none,.none,.none,.none,.none,.none,.none,.none,.none,.none,.none,.none,.none,.none,.none,.none,.none,.none,.none,.none,.none,.none,.none,.none,.none,.none,.none,.none,.none,.none,.none,.none,.none,.none,.none,.none,.none,.none,.none,.none,.none,.none,.none,.none,.none,.none,.none,.none,.none,.none,.none,.none,.none,.none,.none,.none,.none,.none,.ref 10,.ref 12,.ref 14,.ref 16,.ref 18,.ref 20,.ref 22]
def base(W:WP):List MO:=[.inst 324 1,
 .idict 324 [(sO "kt",.ref 2),(sO "types",.ref 9),(sO "fields_",.anyv),(sO "methods",.ref 26),(sO "names",.anyv),(sO "asms",.anyv),(sO "entry",.int 0)],
 .ktb,
 .any,
 .any,
 .any,
 .any,
 .any,
 .any,
 QZ,
 .inst 282 11,
 qC W 0 "P" 1 (.int 0) (fun j=>.ref (Nat.add j 0)),
 .inst 282 13,
 qC W 1 "Q" 1 (.int 0) (fun j=>.ref (Nat.add j 1)),
 .inst 282 15,
 qC W 2 "G" 1 (.int 0) (fun j=>.ref (Nat.add j 2)),
 .inst 282 17,
 qC W 3 "R" 1 (.int 0) (fun j=>.ref (Nat.add j 3)),
 .inst 282 19,
 qC W 4 "S" 2 (.int 0) (fun j=>.ref (Nat.add j 4)),
 .inst 282 21,
 qC W 5 "M" 1 (mz W) (fun j=>.ref (Nat.add j 5)),
 .inst 282 23,
 qC W 6 "K" 1 (.int 69) (fun j=>.ref (Nat.add j 6)),
 .inst 282 25,
 Vw 1 "Object" 1 (.int 0) (.int (-1)) (.int 0) (.int 0) obV,
 .list [.none,.ref 27,.ref 29,.ref 31,.ref 33,.ref 35,.ref 37,.ref 39,.ref 41,.ref 43,.ref 45,.ref 47,.ref 49,.ref 51,.ref 53,.ref 55,.ref 57,.ref 59,.ref 61,.ref 63,.ref 65,.ref 67,.ref 69],
 .inst 303 28,
 iy W 1 64 "f" 0 0 .anyv,
 .inst 303 30,
 iy W 2 64 "f" 0 0 .anyv,
 .inst 303 32,
 iy W 3 64 "f" 0 0 .anyv,
 .inst 303 34,
 iy W 4 64 "f" 1 0 .anyv,
 .inst 303 36,
 iy W 5 64 "f" 6 0 .anyv,
 .inst 303 38,
 iy W 6 64 "f" 128 0 .anyv,
 .inst 303 40,
 iy W 7 65 "f" 0 0 .anyv,
 .inst 303 42,
 iy W 8 65 "f" 2 0 .anyv,
 .inst 303 44,
 iy W 9 65 "f" 1 0 .anyv,
 .inst 303 46,
 iy W 10 65 ".ctor" 32 0 .anyv,
 .inst 303 48,
 iy W 11 66 "f" 0 1 (.ref 121),
 .inst 303 50,
 iy W 12 66 "f" 0 0 .anyv,
 .inst 303 52,
 iy W 13 66 "f" 1 0 .anyv,
 .inst 303 54,
 iy W 14 67 "f" 2 0 .anyv,
 .inst 303 56,
 iy W 15 67 "f" 0 0 .anyv,
 .inst 303 58,
 iy W 16 67 "f" 6 0 .anyv,
 .inst 303 60,
 iy W 17 67 ".ctor" 32 0 .anyv,
 .inst 303 62,
 iy W 18 68 "f" 0 0 .anyv,
 .inst 303 64,
 iy W 19 68 "f" 0 0 .anyv,
 .inst 303 66,
 iy W 20 68 "f" 0 0 .anyv,
 .inst 303 68,
 iy W 21 68 "f" 1 0 .anyv,
 .inst 303 70,
 iy W 22 64 "g" 0 0 .anyv,
 .inst 625 72,
 .idict 625 [(sO "kt",.ref 2),(sO "bases",.anyv),(sO "ifaces",.anyv),(sO "sorts",.anyv),(sO "variances",.anyv),(sO "unders",.anyv),(sO "bounds",.anyv),(sO "gflags",.anyv),(sO "news",.anyv),(sO "store",.ref 0)],
 .list (nB W),
 .list (ik W),
 .list (oZ W),
 .list (ug W),
 .list [.int 16,.int 17,.int 18,.int 19,.int 21,.int 22,.int 23],
 .list (qB W),
 .list [.int 1,.int 2,.int 3,.int 4,.int 5,.int 6,.int 22],
 .list [.int 7,.int 8,.int 9,.int 10],
 .list [.int 11,.int 12,.int 13],
 .list [.int 14,.int 15,.int 16,.int 17],
 .list [.int 18,.int 19,.int 20,.int 21],
 .list [],
 .list [],
 .list [],
 .list [],
 .list [],
 .list [],
 .list [.tup [.int 18,.int 16,.int 1],.tup [.int 20,.int 16,.int 1]],
 .list [],
 .list [],
 .list [],
 .list [],
 .list [.tup [.int 0,.tup []]],
 .list [],
 .list [],
 .list [],
 .list [],
 .list [],
 .list [],
 .list [.str (sO "T")],
 .list [],
 .list [],
 .list [],
 .list [],
 .list [],
 .list [],
 .list [.int 0],
 .list [],
 .list [],
 .list [],
 .list [],
 .list [],
 .list [],
 .list [],
 .list [],
 .list [],
 .list [],
 .list [],
 .list [lQ W],
 .inst 866 123]
def fs(own:Int):MO:=.idict 866 [(sO "unit",.anyv),(sO "store",.ref 0),(sO "kt",.ref 2),(sO "host",.ref 71),(sO "asm",.int 2),(sO "kinds",.anyv),(sO "unmet",.anyv),(sO "told",.anyv),(sO "tparams",.anyv),(sO "owner",.int own),(sO "mid",.int 0),(sO "early",.int 0),(sO "static",.int 0)]
def aG(W:WP):List MO:=[.inst 324 1,
 .idict 324 [(sO "kt",.ref 2),(sO "types",.ref 9),(sO "fields_",.anyv),(sO "methods",.anyv),(sO "names",.anyv),(sO "asms",.anyv),(sO "entry",.int 0)],
 .ktb,
 .any,
 .any,
 .any,
 .any,
 .any,
 .any,
 QZ,
 .inst 282 11,
 qC W 0 "P" 1 (.int 0) A9,
 .inst 282 13,
 qC W 1 "Q" 1 (.int 0) A9,
 .inst 282 15,
 qC W 2 "G" 1 (.int 0) A9,
 .inst 282 17,
 qC W 3 "R" 1 (.int 0) A9,
 .inst 282 19,
 qC W 4 "S" 2 (.int 0) A9,
 .inst 282 21,
 qC W 5 "M" 1 (mz W) A9,
 .inst 282 23,
 qC W 6 "K" 1 (.int 69) A9,
 .inst 282 25,
 Vw 1 "Object" 1 (.int 0) (.int (-1)) (.int 0) (.int 0) A9]
def iE(w:Wd)(W:WP):Prop:=∃V:List MO,(w.B.map (·.1)).take 26=V∧V.length=26∧V.map (cu 26)=aG W∧∀(i:Nat) (o:MO),V[i]? =some o→(cu 26 o).plain=o.plain
noncomputable def Aa(a b:Bool):Bool:=match a with
 |true=>b
 |false=> !b
theorem Gm{a b:Bool}(h:Aa a b=true):a=b:=by
 cases a <;>cases b <;>first|rfl|exact cM h
def JX(k:Nat):List MO→Bool
 |[]=>true
 |o::r=>an (Aa (cu k o).plain o.plain) (JX k r)
theorem gS{k:Nat}:∀{l:List MO},JX k l=true→∀(i:Nat) (o:MO),l[i]? =some o→(cu k o).plain=o.plain
 |[],_,i,o,h=>nomatch h
 |x::l,hp,0,o,h=>oiZ (show some x=some o from h) ▸Gm (cO hp).1
 |x::l,hp,i+1,o,h=>gS (cO hp).2 i o h
theorem gT(W:WP):(aG W).length=26:=by kernel_rfl
theorem rV(W:WP):(aG W).map (cu 26)=aG W:=by kernel_rfl
theorem uh(W:WP):JX 26 (aG W)=true:=by kernel_rfl
theorem ui(W:WP):((base W).take 26).map (cu 26)=aG W:=by kernel_rfl
theorem yV(W:WP):JX 26 ((base W).take 26)=true:=by kernel_rfl
theorem rX{w:Wd}{W:WP}(h:w.B.map (·.1)=aG W):iE w W:=⟨aG W,by rw [h];rw [List.take_of_length_le];rw [gT W];exact lrZ _,gT W,rV W,gS (uh W)⟩
noncomputable def Av(k:Nat)(v:MV):Prop:=Pz v∨∃i,i < k∧v=.ref i
theorem VR.av{as:List Addr}{ks ks':List (Bool×Int)}{im:List (Addr×Obj)}{k:Nat}{v:MV}{x:Value}(h:VR as ks im v x)(a:Av k v):VR (as.take k) ks' im v x:=by
 rcases a with p|⟨i,hi,rfl⟩
 ·exact VR.pz h p
 ·obtain⟨_,rfl,g⟩:=h.refI;exact .ref ((ycZ hi).trans g)
theorem VRs.av{as:List Addr}{ks ks':List (Bool×Int)}{im:List (Addr×Obj)}{k:Nat}:∀{v:List MV} {x:List Value},VRs as ks im v x→(∀y ∈ v,Av k y)→VRs (as.take k) ks' im v x
 |[],_,h,_=>by
  obtain rfl:=h.nilI;exact .nil
 |v::vs,_,h,a=>by
  obtain⟨_,_,rfl,h,hs⟩:=h.consI
  exact .cons (h.av (a _ (.head _))) (VRs.av hs fun y hy=>a y (.tail _ hy))
section
variable{l:LS}{st:MS}
theorem Now.v26(n:Now w h₀ L m X l st s)(hB:iE w W)(hb:26≤st.bas):IsView w (ix w 26 l st) 26 l st [] []∧b9 26 26 st.H=aG W∧iE (ix w 26 l st) W:=by
 obtain⟨V,hV,hl,hc,hp⟩:=hB;obtain⟨h1,h2⟩:=n.base_take hV hl hb
 have e:b9 26 26 st.H=aG W:=by rw [cj,h1,hc]
 have hi:st.H[2]? =some .ktb:=by
  have a:(b9 26 26 st.H)[2]? =some .ktb:=by rw [e];kernel_rfl
  rw [eF (by lia)]at a
  obtain⟨o,g1,g2⟩:=ysZ.mp a;rw [ib g2]at g1;exact g1
 refine⟨n.mkView (by lia) hi h2 fun i o hi ho=>hp i o ?_,e,rX ?_⟩
 ·rw [←h1,ycZ hi];exact ho
 ·show ((b9 26 26 st.H).zip (l.RL.take 26)).map (·.1)=aG W
  rw [List.map_fst_zip,e];rw [dH h2,yeZ,n.H.len']
  lia
end
def oc(f:FI)(dm:Nat)(zv:List MV→Option MV):aX:=fun a d args st=>gd (Nat.beq a f.ad) (gd (Nat.ble 26 st.bas) (gd (Nat.ble dm d) (ob (zv args) fun v=>some (v,st))))
def Ab(f:FI)(dm:Nat)(zv:List MV→Option (List MV)):aX:=fun a d args st=>gd (Nat.beq a f.ad) (gd (Nat.ble 26 st.bas) (gd (Nat.ble dm d) (ob (zv args) fun vs=>some (.ref st.H.length,psh st (.list vs)))))
theorem da(f:FI)(dm:Nat)(zv:List MV→Option MV):ah (oc f dm zv):=fun a d args st v st' e=>
 (show Al (oc f dm zv a d args st) fun p=>Pres st p.2 from .gd fun _=>.gd fun _=>.gd fun _=>.ob fun _ _=>.so Pres.rfl') _ e
theorem yW(f:FI)(dm:Nat)(zv:List MV→Option (List MV)):ah (Ab f dm zv):=fun a d args st v st' e=>
 (show Al (Ab f dm zv a d args st) fun p=>Pres st p.2 from .gd fun _=>.gd fun _=>.gd fun _=>.ob fun _ _=>.so (Pres.psh _)) _ e
section
variable{O':aX}{dm:Nat}
theorem VRs.v26{l:LS}{args:List MV}{zq:List Value}(hv:l.VRs args zq)(p:∀y ∈ args,Av 26 y):(⟨l.RL.take 26,l.im,[]⟩:LS).VRs args zq:=by
 have ea:(⟨l.RL.take 26,l.im,[]⟩:LS).as=l.as.take 26:=yqZ
 show VRs (⟨l.RL.take 26,l.im,[]⟩:LS).as [] l.im args zq
 rw [ea];exact VRs.av hv p
theorem db{zv:List MV→Option MV}(hO:∀w',iE w' W→ak w' O')(hP:ah O')(hf:∀P,dT P f)
  (hs:∀args v,zv args=some v→Pz v∧(∀y ∈ args,Av 26 y)∧∃N,∀d,(aA O' N (d+dm)).cal f args ⟨aG W,[],aD,aD⟩=some (v,⟨aG W,[],aD,aD⟩)) {w:Wd} (hB:iE w W):ak w (oc f dm zv):=by
 intro d F S A hA hh R m X l st s f' hf' args zq v st' e n hv Q hQ
 refine (?_:Al (oc f dm zv f'.ad d args st) fun p=>(∀v' s' l',Now w F.h₀ F.L m X l' p.2 s'→Ext l l'→Same s s'→l'.VR p.1 v'→Q (.ok (.ret v')) s')→codeAny (M w) A (.call (.ref f'.ad) ⟨zq,[]⟩) Q s) _ e hQ
 clear e hQ
 refine .gd fun h1=>.gd fun h2=>.gd fun h3=>.ob fun v0 h4=>.so fun hQ=>?_
 obtain⟨d,rfl⟩:∃d',d=d'+dm:=⟨d - dm,(Nat.sub_add_cancel (lbZ h3)).symm⟩;obtain⟨V,e1,B1⟩:=n.v26 hB (lbZ h2);obtain⟨p1,p2,N,p3⟩:=hs args _ h4;rw [Nat.eq_of_beq_eq_true h1]
 exact uI ((kQ (hO _ B1) hP N).C (d+dm)) S hA hh R (hf _) n V (by rw [e1];exact p3 d) (by decide) (VRs.v26 hv p2) p1 hQ
theorem yX{zv:List MV→Option (List MV)}(hO:∀w',iE w' W→ak w' O')(hP:ah O')(hf:∀P,dT P f)
  (hs:∀args vs,zv args=some vs→(∀v ∈ vs,Pz v)∧(∀y ∈ args,Av 26 y)∧∃N,∀d,(aA O' N (d+dm)).cal f args ⟨aG W,[],aD,aD⟩=some (.ref 26,⟨aG W++[.list vs],[],aD,aD⟩)) {w:Wd} (hB:iE w W):ak w (Ab f dm zv):=by
 intro d F S A hA hh R m X l st s f' hf' args zq v st' e n hv Q hQ
 refine (?_:Al (Ab f dm zv f'.ad d args st) fun p=>(∀v' s' l',Now w F.h₀ F.L m X l' p.2 s'→Ext l l'→Same s s'→l'.VR p.1 v'→Q (.ok (.ret v')) s')→codeAny (M w) A (.call (.ref f'.ad) ⟨zq,[]⟩) Q s) _ e hQ
 clear e hQ
 refine .gd fun h1=>.gd fun h2=>.gd fun h3=>.ob fun v0 h4=>.so fun hQ=>?_
 obtain⟨d,rfl⟩:∃d',d=d'+dm:=⟨d - dm,(Nat.sub_add_cancel (lbZ h3)).symm⟩;obtain⟨V,e1,B1⟩:=n.v26 hB (lbZ h2);obtain⟨p1,p2,N,p3⟩:=hs args _ h4;rw [Nat.eq_of_beq_eq_true h1]
 exact uJ ((kQ (hO _ B1) hP N).C (d+dm)) S hA hh R (hf _) n V (by rw [e1];exact p3 d) (by decide) (VRs.v26 hv p2) p1 hQ
end
noncomputable def bt:FI:=⟨498,st 128⟩
def dL(W:WP)(t:Nat):Option (List MV):=match Nat.beq t 70 with
 |true=>some [.int 70,.int 69,mz W]
 |false=>match Nat.beq t 69 with
  |true=>some [.int 69,mz W]
  |false=>gd (aQ t [64,65,66,67,68]) (some [.int (.ofNat t)])
def dM(W:WP)(args:List MV):Option (List MV):=aR 0 args fun l=>aB dn l fun t l=>aE l (dL W t)
theorem gU{α β:Type}{o:Option α}{f:α→β}{v:β}(h:o.map f=some v):∃x,o=some x∧v=f x:=match o,h with
 |some x,h=>⟨x,rfl,(oiZ h).symm⟩
theorem rY{l:List MV}(h:∀y ∈ l,Av 26 y):∀y ∈ MV.ref 0::l,Av 26 y:=fcZ ⟨.inr ⟨0,by decide,rfl⟩,h⟩
theorem ft{v:MV}{l:List MV}(p:Pz v)(h:∀y ∈ l,Av 26 y):∀y ∈ v::l,Av 26 y:=fcZ ⟨.inl p,h⟩
theorem r8:∀y ∈ ([]:List MV),Av 26 y:=fun _ h=>nomatch h
def eJ(W:WP)(O:aX)(f:FI)(dm:Nat)(v:MV)(args:List MV):Prop:=Pz v∧(∀y ∈ args,Av 26 y)∧∃N,∀d,(aA O N (d+dm)).cal f args ⟨aG W,[],aD,aD⟩=some (v,⟨aG W,[],aD,aD⟩)
def Vx(W:WP)(O:aX)(f:FI)(dm:Nat)(vs:List MV)(args:List MV):Prop:=(∀v ∈ vs,Pz v)∧(∀y ∈ args,Av 26 y)∧∃N,∀d,(aA O N (d+dm)).cal f args ⟨aG W,[],aD,aD⟩=some (.ref 26,⟨aG W++[.list vs],[],aD,aD⟩)
def jj(W:WP)(O:aX)(f:FI)(dm:Nat)(row v:MV)(i:List MV):Prop:=Pz v∧(∀y ∈ i,Av 26 y)∧∃N,∀d,(aA O N (d+dm)).cal f (i++[.kd 0]) ⟨aG W,[row],aD,aD⟩=some (v,⟨aG W,[row],aD,aD⟩)
theorem UF{α:Type}{v:α}{f:Nat→List MV→Option α}{P:List MV→Prop}(k:∀n l,f n l=some v→P (.int (.ofNat n)::l)):∀l,aB dn l f=some v→P l:=wA (c:=fun n=>.int (.ofNat n)) (fun _ _ h=>fV h) fun _ n l _ e=>k n l e
theorem jk(W:WP)(h:W.home < 5)(d:Nat)(t:Nat):Al (dL W t) fun vs=>(∃l:List Int,vs=l.map .int)∧(aA aC 60 (d+3)).cal bt [.ref 0,.int (.ofNat t)] ⟨aG W,[],aD,aD⟩=some (.ref 26,⟨aG W++[.list vs],[],aD,aD⟩):=by
 obtain⟨home,b1,b2,b5,m1,m2,m3,m4,k0,k1,k2,k3,k4,k5,k6,a5,a7,a9,a11,g⟩:=W
 delta dL
 refine .bl (fun h1=>.so ?_) fun _=>.bl (fun h1=>.so ?_) fun _=>.gd fun h1=>.so ?_
 ·obtain rfl:=ebZ h1
  exact⟨⟨[70,69,.ofNat (Nat.add 64 home)],rfl⟩,ai (List.range 5) (fun home=>(aA aC 60 (d+3)).cal bt [.ref 0,.int 70] ⟨aG ⟨home,b1,b2,b5,m1,m2,m3,m4,k0,k1,k2,k3,k4,k5,k6,a5,a7,a9,a11,g⟩,[],aD,aD⟩) (fun home=>some (.ref 26,⟨aG ⟨home,b1,b2,b5,m1,m2,m3,m4,k0,k1,k2,k3,k4,k5,k6,a5,a7,a9,a11,g⟩++[.list [.int 70,.int 69,.int (.ofNat (Nat.add 64 home))]],[],aD,aD⟩)) (by kernel_rfl) home (mgZ h)⟩
 ·obtain rfl:=ebZ h1
  exact⟨⟨[69,.ofNat (Nat.add 64 home)],rfl⟩,ai (List.range 5) (fun home=>(aA aC 60 (d+3)).cal bt [.ref 0,.int 69] ⟨aG ⟨home,b1,b2,b5,m1,m2,m3,m4,k0,k1,k2,k3,k4,k5,k6,a5,a7,a9,a11,g⟩,[],aD,aD⟩) (fun home=>some (.ref 26,⟨aG ⟨home,b1,b2,b5,m1,m2,m3,m4,k0,k1,k2,k3,k4,k5,k6,a5,a7,a9,a11,g⟩++[.list [.int 69,.int (.ofNat (Nat.add 64 home))]],[],aD,aD⟩)) (by kernel_rfl) home (mgZ h)⟩
 ·exact⟨⟨[.ofNat t],rfl⟩,ai [64,65,66,67,68] (fun t=>(aA aC 60 (d+3)).cal bt [.ref 0,.int (.ofNat t)] ⟨aG ⟨home,b1,b2,b5,m1,m2,m3,m4,k0,k1,k2,k3,k4,k5,k6,a5,a7,a9,a11,g⟩,[],aD,aD⟩) (fun t=>some (.ref 26,⟨aG ⟨home,b1,b2,b5,m1,m2,m3,m4,k0,k1,k2,k3,k4,k5,k6,a5,a7,a9,a11,g⟩++[.list [.int (.ofNat t)]],[],aD,aD⟩)) (by kernel_rfl) t (cN h1)⟩
theorem kh(W:WP)(h:W.home < 5):∀args vs,dM W args=some vs→Vx W aC bt 3 vs args:=fun args vs=>
 iw (fun l=>UF (P:=fun l=>Vx W aC bt 3 vs (.ref 0::l)) (fun t l=>ga (P:=fun l=>Vx W aC bt 3 vs (.ref 0::.int (.ofNat t)::l)) (fun e=>
  ⟨let ⟨⟨l,hl⟩,_⟩:=jk W h 0 t vs e;hl ▸ff l,rY (ft (.int _) r8),60,fun d=>(jk W h d t vs e).2⟩) l) l) args
def aS(W:WP):aX:=Ab bt 3 (dM W)
theorem jl{w:Wd}{W:WP}(h:W.home < 5)(hB:iE w W):ak w (aS W):=yX (fun w' _=>kO w') kP Pj (kh W h) hB
theorem jm(W:WP):ah (aS W):=yW _ _ _
noncomputable def fO:FI:=⟨484,st 126⟩
noncomputable def iF:List Nat:=[64,1]
def ki(W:WP):List Nat:=65::(match W.b1 with|true=>iF|false=>[1])
def qD(W:WP):List Nat:=66::(match W.b2 with|true=>ki W|false=>iF)
def yY(W:WP)(t:Nat):List Nat:=match Nat.beq t 64 with
 |true=>iF
 |false=>match Nat.beq t 65 with
  |true=>ki W
  |false=>match Nat.beq t 66 with
   |true=>qD W
   |false=>match Nat.beq t 67 with
    |true=>67::qD W
    |false=>match Nat.beq t 69 with
     |true=>69::(match W.b5 with|true=>iF|false=>[1])
     |false=>match Nat.beq t 70 with
      |true=>70::ki W
      |false=>[t]
def jP(W:WP)(a b:Nat):Bool:=aQ b (yY W a)
def qE(W:WP)(args:List MV):Option MV:=aR 0 args fun l=>aN [1,4,5,64,65,66,67,68,69,70] l fun a l=>aN [64,65,66,67,68,69,70] l fun b l=>aE l (some (.bool (jP W a b)))
abbrev Vy(W:WP)(a b:Nat):Prop:=∀d,(aA bB 120 (d+4)).cal fO [.ref 0,.int (.ofNat a),.int (.ofNat b)] ⟨aG W,[],aD,aD⟩=some (.bool (jP W a b),⟨aG W,[],aD,aD⟩)
noncomputable def uj(as bs:List Nat):List (Nat×Nat):=as.flatMap fun a=>bs.map fun b=>(a,b)
theorem bu{as bs:List Nat}{a b:Nat}(ha:a ∈ as)(hb:b ∈ bs):(a,b) ∈ uj as bs:=List.mem_flatMap.mpr ⟨a,ha,List.mem_map_of_mem hb⟩
theorem yZ(W:WP)(a b:Nat)(ha:a ∈ [1,4,5,64,65,66,67,68,69,70])(hb:b ∈ [64,65,66,67,68,69,70]):Vy W a b:=by
 obtain⟨home,b1,b2,b5,m1,m2,m3,m4,k0,k1,k2,k3,k4,k5,k6,a5,a7,a9,a11,g⟩:=W;intro d
 have G:=fun as=>ai (uj as [64,65,66,67,68,69,70]) (fun p=>(aA bB 120 (d+4)).cal fO [.ref 0,.int (.ofNat p.1),.int (.ofNat p.2)] ⟨aG ⟨home,b1,b2,b5,m1,m2,m3,m4,k0,k1,k2,k3,k4,k5,k6,a5,a7,a9,a11,g⟩,[],aD,aD⟩)
  (fun p=>some (.bool (jP ⟨home,b1,b2,b5,m1,m2,m3,m4,k0,k1,k2,k3,k4,k5,k6,a5,a7,a9,a11,g⟩ p.1 p.2),⟨aG ⟨home,b1,b2,b5,m1,m2,m3,m4,k0,k1,k2,k3,k4,k5,k6,a5,a7,a9,a11,g⟩,[],aD,aD⟩))
 rcases (show ∀a ∈ [1,4,5,64,65,66,67,68,69,70],a ∈ [1,4,5,64,68]∨a ∈ [65,70]∨a ∈ [66,67]∨a ∈ [69] by decide) a ha with h|h|h|h
 ·exact G _ (by kernel_rfl) (a,b) (bu h hb)
 ·exact G _ (by cases b1 <;>kernel_rfl) (a,b) (bu h hb)
 ·exact G _ (by cases b1 <;>cases b2 <;>kernel_rfl) (a,b) (bu h hb)
 ·exact G _ (by cases b5 <;>kernel_rfl) (a,b) (bu h hb)
theorem od(W:WP):∀args v,qE W args=some v→eJ W bB fO 4 v args:=fun args v=>
 iw (fun l=>gA (P:=fun l=>eJ W bB fO 4 v (.ref 0::l)) (fun a ha l=>gA (P:=fun l=>eJ W bB fO 4 v (.ref 0::.int (.ofNat a)::l)) (fun b hb l=>ga (P:=fun l=>eJ W bB fO 4 v (.ref 0::.int (.ofNat a)::.int (.ofNat b)::l)) (fun e=>
  GB (P:=fun v=>eJ W bB fO 4 v [.ref 0,.int (.ofNat a),.int (.ofNat b)]) ⟨.bool _,rY (ft (.int _) (ft (.int _) r8)),120,yZ W a b ha hb⟩ e) l) l) l) args
def r9(W:WP):aX:=oc fO 4 (qE W)
theorem yb{w:Wd}{W:WP}(hB:iE w W):ak w (r9 W):=db (fun w' _=>bI w') bJ Pi (od W) hB
theorem yc(W:WP):ah (r9 W):=da _ _ _
noncomputable def Vz:List Stmt→Pos
 | .If _ _ _ p::_=>p
 |_=>⟨0,0,0,0⟩
theorem aP{O:aX}{n d:Nat}{cx:Cx}{ss tl:List Stmt}{K:List Itm}{zl:Loc}{st zz:MS}{b:Bool}(h:ss=.If (aq ss) (d9 ss) (dp ss) (Vz ss)::tl)(ht:(aA O n d).tst cx zl st (aq ss)=some (b,zz)):
  (aA O (n+1) d).run cx (.stm ss::K) zl st=(aA O n d).run cx (.stm (b2 b (d9 ss) (dp ss))::.stm tl::K) zl zz:=by
 generalize aq ss=t at h ht;generalize d9 ss=a at h ⊢;generalize dp ss=c at h ⊢;generalize Vz ss=p at h;subst h
 show pb ((aA O n d).tst cx zl st t) (fun c0 st=>match c0 with
  |true=>(aA O n d).run cx (.stm a::.stm tl::K) zl st
  |false=>(aA O n d).run cx (.stm c::.stm tl::K) zl st)=_
 rw [ht]
 cases b <;>rfl
theorem Q0{ih:Ih}{cx:Cx}{zl:Loc}{st zz st2:MS}{e1 e2:xpZ}{a b:Bool}(h1:ih.tst cx zl st e1=some (a,zz))(h2:a=true→ih.tst cx zl zz e2=some (b,st2))(h3:zz=st2):cF ih cx zl .And st [e1,e2]=some (an a b,st2):=by
 subst h3;unfold cF;rw [h1]
 cases a with
 |false=>rfl
 |true=>
  show cF ih cx zl .And zz [e2]=_
  unfold cF;rw [h2 rfl]
  cases b <;>rfl
noncomputable def gV:List Stmt→xpZ
 | .For x _ _ _ _::_=>x
 |_=>.Constant .none 0 ⟨0,0,0,0⟩
noncomputable def gW:List Stmt→List Stmt
 | .For _ _ b _ _::_=>b
 |_=>[]
theorem kj{st:MS}{r:Nat}{vs:List MV}(h:aH st.H r=some (.list vs)):jV st r=some vs:=by
 unfold jV;rw [h];rfl
theorem bh{O:aX}{n d:Nat}{cx:Cx}{x:xpZ}{body:List Stmt}{K:List Itm}{zl zu:Loc}{st st':MS}{r i:Nat}{vs:List MV}{v:MV}(hg:aH st.H r=some (.list vs))(hv:aH vs i=some v)(ha:bL (aA O n d) cx zl st x v=some (zu,st')):
  (aA O (n+1) d).run cx (.forI x (.lst r) i body::K) zl st=(aA O n d).run cx (.stm body::.forI x (.lst r) (Nat.succ i) body::K) zu st':=by
 show ob (ob (jV st r) fun vs=>some (aH vs i)) (fun o=>match o with
  |some v=>pb (bL (aA O n d) cx zl st x v) fun zl st=>(aA O n d).run cx (.stm body::.forI x (.lst r) (Nat.succ i) body::K) zl st
  |none=>(aA O n d).run cx K zl st)=_
 rw [kj hg]
 show (match aH vs i with
  |some v=>pb (bL (aA O n d) cx zl st x v) fun zl st=>(aA O n d).run cx (.stm body::.forI x (.lst r) (Nat.succ i) body::K) zl st
  |none=>(aA O n d).run cx K zl st)=_
 rw [hv]
 show pb (bL (aA O n d) cx zl st x v) _=_
 rw [ha];rfl
theorem cR{O:aX}{n d:Nat}{cx:Cx}{x:xpZ}{body:List Stmt}{K:List Itm}{zl:Loc}{st:MS}{r i:Nat}{vs:List MV}(hg:aH st.H r=some (.list vs))(hv:aH vs i=none):
  (aA O (n+1) d).run cx (.forI x (.lst r) i body::K) zl st=(aA O n d).run cx K zl st:=by
 show ob (ob (jV st r) fun vs=>some (aH vs i)) _=_
 rw [kj hg]
 show (match aH vs i with
  |some v=>pb (bL (aA O n d) cx zl st x v) fun zl st=>(aA O n d).run cx (.stm body::.forI x (.lst r) (Nat.succ i) body::K) zl st
  |none=>(aA O n d).run cx K zl st)=_
 rw [hv]
noncomputable def Ac:FI:=⟨463,st 123⟩
def fv:Cx:=(fS (st 123)).names
def JY:xpZ:=gV ((fB (st 123)).drop 1)
def tsY:List Stmt:=gW ((fB (st 123)).drop 1)
def JZ(i:Nat):List Itm:=[.forI JY (.lst 26) i tsY,.stm ((fB (st 123)).drop 2)]
def Gn(f tid:Int):Loc:=[(sO "store",.ref 0),(sO "from_asm",.int f),(sO "tid",.int tid)]
def kl(f tid a:Int)(q:Option Nat):Loc:=[(sO "store",.ref 0),(sO "from_asm",.int f),(sO "tid",.int tid),(sO "at",.int a)]++(match q with|none=>[]|some r=>[(sO "t",.ref r)])
def km(W:WP)(vs:List MV):MS:=⟨aG W++[.list vs],[],aD,aD⟩
def rb(W:WP)(f:Int)(j:Nat):Bool:=an (fC W j) (!(eqB (aU W j) f))
def nC(sv:Nat→Bool):List Nat→Bool
 |[]=>true
 |j::r=>b2 (sv j) false (nC sv r)
theorem WA{i:Nat}(h:i < 7):i=0∨i=1∨i=2∨i=3∨i=4∨i=5∨i=6:=(by decide:∀i ∈ List.range 7,i=0∨i=1∨i=2∨i=3∨i=4∨i=5∨i=6) i (mgZ h)
theorem q7{α:Type}{F G:Nat→α}(h:[0,1,2,3,4,5,6].map F=[0,1,2,3,4,5,6].map G){i:Nat}(hi:i < 7):F i=G i:=ai [0,1,2,3,4,5,6] F G h i (mgZ hi)
theorem c5{P:Nat→Prop}(h0:P 0)(h1:P 1)(h2:P 2)(h3:P 3)(h4:P 4):∀i,i < 5→P i:=fun i h=>(fcZ ⟨h0,fcZ ⟨h1,fcZ ⟨h2,fcZ ⟨h3,fcZ ⟨h4,(fun _ h=>nomatch h)⟩⟩⟩⟩⟩:∀i ∈ List.range 5,P i) i (mgZ h)
theorem c9{P:Nat→Prop}(h0:P 0)(h1:P 1)(h2:P 2)(h3:P 3)(h4:P 4)(h5:P 5)(h6:P 6)(h7:P 7)(h8:P 8):∀i,i < 9→P i:=fun i h=>(fcZ ⟨h0,fcZ ⟨h1,fcZ ⟨h2,fcZ ⟨h3,fcZ ⟨h4,fcZ ⟨h5,fcZ ⟨h6,fcZ ⟨h7,fcZ ⟨h8,(fun _ h=>nomatch h)⟩⟩⟩⟩⟩⟩⟩⟩⟩:∀i ∈ List.range 9,P i) i (mgZ h)
theorem lq{α:Type}(k:Nat){F G:Nat→α}(h:(List.range k).map F=(List.range k).map G){i:Nat}(hi:i < k):F i=G i:=ai (List.range k) F G h i (mgZ hi)
theorem nD{α:Type}(F G:Bool→Bool→α)(h:[F true true,F true false,F false true,F false false]=[G true true,G true false,G false true,G false false])(a b:Bool):F a b=G a b:=
 ai [(true,true),(true,false),(false,true),(false,false)] (fun p=>F p.1 p.2) (fun p=>G p.1 p.2) h (a,b) ((by decide:∀a b:Bool,(a,b) ∈ [(true,true),(true,false),(false,true),(false,false)]) a b)
noncomputable def fD(l:List Stmt):Stmt:=match l with
 |s::_=>s
 |[]=>.Pass ⟨0,0,0,0⟩
theorem mB{α β:Type}{l:List β}(F G:Bool→β→α)(h:[l.map (F true),l.map (F false)]=[l.map (G true),l.map (G false)])(b:Bool):∀x ∈ l,F b x=G b x:=List.map_inj_left.mp (allB (fun b=>l.map (F b)) (fun b=>l.map (G b)) h b)
noncomputable def bs3:List (Bool×Bool×Bool):=[(true,true,true),(true,true,false),(true,false,true),(true,false,false),(false,true,true),(false,true,false),(false,false,true),(false,false,false)]
theorem fh:∀a b c:Bool,(a,b,c) ∈ bs3:=by decide+kernel
def WB:List (Bool×Bool×Bool×Bool):=bs3.map (fun p=>(true,p))++bs3.map fun p=>(false,p)
theorem qF:∀a b c d:Bool,(a,b,c,d) ∈ WB:=by decide+kernel
theorem lR{α:Type}(k:Nat){F G:Nat→α}(h:(List.range k).map F=(List.range k).map G)(i:Nat)(hi:i < k):F i=G i:=lq k h hi
theorem Ad{α:Type}(k:Nat){F G:Bool→Nat→α}(h:[(List.range k).map (F true),(List.range k).map (F false)]=[(List.range k).map (G true),(List.range k).map (G false)])(b:Bool)(i:Nat)(hi:i < k):F b i=G b i:=mB F G h b i (mgZ hi)
noncomputable abbrev iM(l:List Nat):List MV:=l.map fun j=>.int (.ofNat (Nat.add 64 j))
section
variable(W:WP)(f tid a:Int)(vs:List MV)(n d:Nat)(K:List Itm)(zl:Loc)(S:MS){j:Nat}(q:Option Nat)
theorem Q1:bL (aA (aS W) n d) fv (Gn f tid) S JY (.int a)=some (kl f tid a none,S):=by kernel_rfl
theorem Q2(b:Int):bL (aA (aS W) n d) fv (kl f tid b q) S JY (.int a)=some (kl f tid a q,S):=by cases q <;>kernel_rfl
theorem WC(hj:j < 7):(aA (aS W) (n+12) d).run fv (.stm tsY::K) (kl f tid (.ofNat (Nat.add 64 j)) q) (km W vs)=(aA (aS W) (n+11) d).run fv (.stm (tsY.drop 1)::K) (kl f tid (.ofNat (Nat.add 64 j)) (some (Nat.add 10 (Nat.add j j)))) (km W vs):=by
 rcases WA hj with rfl|rfl|rfl|rfl|rfl|rfl|rfl <;>cases q <;>kernel_rfl
theorem Q3:(aA (aS W) (n+3) d).tst fv zl S (aq (tsY.drop 1))=cF (aA (aS W) (n+2) d) fv zl .And S [aW (cY (aq (tsY.drop 1))) 0,aW (cY (aq (tsY.drop 1))) 1]:=by kernel_rfl
theorem Q4(hj:j < 7):(aA (aS W) (n+12) d).tst fv (kl f tid a (some (Nat.add 10 (Nat.add j j)))) (km W vs) (aW (cY (aq (tsY.drop 1))) 0)=some (fC W j,km W vs)∧(aA (aS W) (n+12) d).tst fv (kl f tid a (some (Nat.add 10 (Nat.add j j)))) (km W vs) (aW (cY (aq (tsY.drop 1))) 1)=some (!(eqB (aU W j) f),km W vs):=by
 obtain⟨_,_,_,_,_,_,_,_,k0,k1,k2,k3,k4,k5,k6⟩:=W;rcases WA hj with rfl|rfl|rfl|rfl|rfl|rfl|rfl
 ·exact⟨by cases k0 <;>kernel_rfl,by kernel_rfl⟩
 ·exact⟨by cases k1 <;>kernel_rfl,by kernel_rfl⟩
 ·exact⟨by cases k2 <;>kernel_rfl,by kernel_rfl⟩
 ·exact⟨by cases k3 <;>kernel_rfl,by kernel_rfl⟩
 ·exact⟨by cases k4 <;>kernel_rfl,by kernel_rfl⟩
 ·exact⟨by cases k5 <;>kernel_rfl,by kernel_rfl⟩
 ·exact⟨by cases k6 <;>kernel_rfl,by kernel_rfl⟩
theorem WD(hj:j < 7):(aA (aS W) (n+13) d).tst fv (kl f tid a (some (Nat.add 10 (Nat.add j j)))) (km W vs) (aq (tsY.drop 1))=some (rb W f j,km W vs):=(Q3 W (n+10) d _ _).trans (Q0 (Q4 W f tid a vs n d hj).1 (fun _=>(Q4 W f tid a vs n d hj).2) rfl)
theorem WE:(aA (aS W) (n+4) d).run fv (.stm (d9 (tsY.drop 1))::K) zl S=some (.bool false,S):=by kernel_rfl
theorem WF:(aA (aS W) (n+4) d).run fv (.stm (dp (tsY.drop 1))::.stm []::K) zl S=(aA (aS W) (n+2) d).run fv K zl S:=by kernel_rfl
theorem WG:(aA (aS W) (n+4) d).run fv [.stm ((fB (st 123)).drop 2)] zl S=some (.bool true,S):=by kernel_rfl
theorem WH(vs:List MV):aH (km W vs).H 26=some (.list vs):=by kernel_rfl
theorem yd{O:aX}{sv:Nat→Bool}(js:List Nat)(hjs:∀j ∈ js,j < 7)(hg:aH S.H 26=some (.list (iM js)))(h1:∀n a,bL (aA O n d) fv (Gn f tid) S JY (.int a)=some (kl f tid a none,S))(h2:∀n a b q,bL (aA O n d) fv (kl f tid b q) S JY (.int a)=some (kl f tid a q,S))
  (h0:∀n K q j,j < 7→(aA O (n+12) d).run fv (.stm tsY::K) (kl f tid (.ofNat (Nat.add 64 j)) q) S=(aA O (n+11) d).run fv (.stm (tsY.drop 1)::K) (kl f tid (.ofNat (Nat.add 64 j)) (some (Nat.add 10 (Nat.add j j)))) S)
  (ht:∀n a j,j < 7→(aA O (n+13) d).tst fv (kl f tid a (some (Nat.add 10 (Nat.add j j)))) S (aq (tsY.drop 1))=some (sv j,S))
  (hA:∀n K zl,(aA O (n+4) d).run fv (.stm (d9 (tsY.drop 1))::K) zl S=some (.bool false,S)) (hB:∀n K zl,(aA O (n+4) d).run fv (.stm (dp (tsY.drop 1))::.stm []::K) zl S=(aA O (n+2) d).run fv K zl S)
  (he:∀n zl,(aA O (n+4) d).run fv [.stm ((fB (st 123)).drop 2)] zl S=some (.bool true,S)):
  ∀(m i:Nat),i+m=js.length→∀zl n,(zl=Gn f tid∨∃a q,zl=kl f tid a q)→(aA O (n+5 * m+20) d).run fv (JZ i) zl S=some (.bool (nC sv (js.drop i)),S):=by
 intro m
 induction m with
 |zero=>
  intro i hi zl n hl
  have e:js.drop i=[]:=List.drop_eq_nil_of_le (by lia)
  rw [e,show n+5 * 0+20=n+19+1 from rfl]
  refine (cR (n:=n+19) hg (by rw [aJ,ydZ,yjZ (by lia)];rfl)).trans ?_
  rw [show n+19=n+15+4 from rfl]
  exact he (n+15) _
 |succ m ih=>
  intro i hi zl n hl
  have hil:i < js.length:=by lia
  have hj:=hjs _ (List.getElem_mem hil);rw [List.drop_eq_getElem_cons hil]
  rw [show n+5 * (m+1)+20=n+5 * m+24+1 by lia]
  generalize hv:js[i]=j at *
  have hgv:aH (iM js) i=some (.int (.ofNat (Nat.add 64 j))):=by rw [aJ,ydZ,yiZ hil,hv];rfl
  obtain⟨q,ha⟩:∃q,bL (aA O (n+5 * m+24) d) fv zl S JY (.int (.ofNat (Nat.add 64 j)))=some (kl f tid (.ofNat (Nat.add 64 j)) q,S):=by
   rcases hl with rfl|⟨a,q,rfl⟩
   ·exact⟨none,h1 _ _⟩
   ·exact⟨q,h2 _ _ _ _⟩
  refine (bh (n:=n+5 * m+24) hg hgv ha).trans ?_;refine (h0 (n+5 * m+12) _ q j hj).trans ?_
  have e1:=aP (K:=JZ (i+1)) (tl:=[]) (by kernel_rfl) (ht (n+5 * m+9) (.ofNat (Nat.add 64 j)) j hj)
  rw [show n+5 * m+9+13+1=n+5 * m+12+11 from rfl,show n+5 * m+9+13=n+5 * m+18+4 from rfl]at e1
  refine Eq.trans e1 ?_
  have ih1:=ih (i+1) (by lia) (kl f tid (.ofNat (Nat.add 64 j)) (some (Nat.add 10 (Nat.add j j)))) n (.inr ⟨_,_,rfl⟩)
  rw [show n+5 * m+20=n+5 * m+18+2 from rfl]at ih1
  have hA1:=hA (n+5 * m+18) (.stm []::JZ (i+1)) (kl f tid (.ofNat (Nat.add 64 j)) (some (Nat.add 10 (Nat.add j j))));have hB1:=(hB (n+5 * m+18) (JZ (i+1)) (kl f tid (.ofNat (Nat.add 64 j)) (some (Nat.add 10 (Nat.add j j))))).trans ih1;clear ih hA hB he h0 h1 h2 ht e1 ih1;generalize (tsY.drop 1)=Y at *
  rw [show nC sv (j::js.drop (i+1))=b2 (sv j) false (nC sv (js.drop (i+1)))from rfl]
  cases sv j with
  |true=>exact hA1
  |false=>exact hB1
theorem WI(js:List Nat)(hjs:∀j ∈ js,j < 7)(m:Nat)(hm:m=js.length):(aA (aS W) (n+5 * m+20) d).run fv (JZ 0) (Gn f tid) (km W (iM js))=some (.bool (nC (rb W f) js),km W (iM js)):=by
 have hg:=WH W (iM js)
 have h0:=fun n K q j (hj:j < 7)=>WC W f tid (iM js) n d K q hj
 have ht:=fun n a j (hj:j < 7)=>WD W f tid a (iM js) n d hj
 have hA:=fun n K zl=>WE W n d K zl (km W (iM js))
 have hB:=fun n K zl=>WF W n d K zl (km W (iM js))
 have he:=fun n zl=>WG W n d zl (km W (iM js))
 have h1:=fun n a=>Q1 W f tid a n d (km W (iM js))
 have h2:=fun n a b q=>Q2 W f tid a n d (km W (iM js)) q b
 generalize km W (iM js)=S at *;generalize aS W=O at *
 exact yd f tid d S js hjs hg h1 h2 h0 ht hA hB he m 0 (by rw [hm,Nat.zero_add]) _ n (.inl rfl)
theorem WJ:(aA (aS W) (n+39) (d+4)).cal Ac [.ref 0,.int f,.int tid] ⟨aG W,[],aD,aD⟩=aL ⟨aG W,[],aD,aD⟩ ((aA (aS W) (n+38) (d+3)).run fv [.stm (fB (st 123))] (Gn f tid) ⟨aG W,[],aD,aD⟩):=by kernel_rfl
theorem WK(b:Bool):aL ⟨aG W,[],aD,aD⟩ (some (.bool b,km W vs))=some (.bool b,⟨aG W,[],aD,aD⟩):=by kernel_rfl
end
noncomputable def cw(W:WP)(t:Nat):List Nat:=match Nat.beq t 70 with
 |true=>[6,5,W.home]
 |false=>match Nat.beq t 69 with
  |true=>[5,W.home]
  |false=>[Nat.sub t 64]
def dN(W:WP)(f:Int)(t:Nat):Bool:=nC (rb W f) (cw W t)
theorem WM(W:WP)(f:Int)(t:Nat)(ht:t ∈ [64,65,66,67,68,69,70])(n d:Nat):(aA (aS W) (n+38) (d+3)).run fv [.stm (fB (st 123))] (Gn f (.ofNat t)) ⟨aG W,[],aD,aD⟩=(aA (aS W) (n+35) (d+3)).run fv (JZ 0) (Gn f (.ofNat t)) (km W (iM (cw W t))):=by
 simp only [yhZ,ygZ,or_false]at ht
 rcases ht with rfl|rfl|rfl|rfl|rfl|rfl|rfl <;>kernel_rfl
theorem WN(W:WP)(hW:W.home < 5){t:Nat}(ht:t ∈ [64,65,66,67,68,69,70]):(cw W t).length≤3∧∀j ∈ cw W t,j < 7:=by
 simp only [yhZ,ygZ,or_false]at ht
 rcases ht with rfl|rfl|rfl|rfl|rfl|rfl|rfl <;>refine⟨lbZ rfl,?_⟩
 ·show ∀j ∈ [0],j < 7
  decide
 ·show ∀j ∈ [1],j < 7
  decide
 ·show ∀j ∈ [2],j < 7
  decide
 ·show ∀j ∈ [3],j < 7
  decide
 ·show ∀j ∈ [4],j < 7
  decide
 ·show ∀j ∈ [5,W.home],j < 7
  simp;lia
 ·show ∀j ∈ [6,5,W.home],j < 7
  simp;lia
theorem tq(W:WP)(hW:W.home < 5)(f:Int)(t:Nat)(ht:t ∈ [64,65,66,67,68,69,70])(d:Nat):(aA (aS W) 60 (d+4)).cal Ac [.ref 0,.int f,.int (.ofNat t)] ⟨aG W,[],aD,aD⟩=some (.bool (dN W f t),⟨aG W,[],aD,aD⟩):=by
 obtain⟨h1,h2⟩:=WN W hW ht;refine (WJ W f _ 21 d).trans ?_;refine Eq.trans (congrArg (aL _) ?_) (WK W (iM (cw W t)) (dN W f t));refine (WM W f t ht 21 d).trans ?_;have e:=WI W f (.ofNat t) (36 - 5 * (cw W t).length) (d+3) (cw W t) h2 _ rfl
 rw [show 36 - 5 * (cw W t).length+5 * (cw W t).length+20=21+35 by lia]at e
 exact e
def uk(W:WP)(args:List MV):Option MV:=aR 0 args fun l=>aI l fun f l=>aN [64,65,66,67,68,69,70] l fun t l=>aE l (some (.bool (dN W f t)))
theorem rc(W:WP)(hW:W.home < 5):∀args v,uk W args=some v→eJ W (aS W) Ac 4 v args:=fun args v=>
 iw (fun l=>wY (P:=fun l=>eJ W (aS W) Ac 4 v (.ref 0::l)) (fun f l=>gA (P:=fun l=>eJ W (aS W) Ac 4 v (.ref 0::.int f::l)) (fun t ht l=>ga (P:=fun l=>eJ W (aS W) Ac 4 v (.ref 0::.int f::.int (.ofNat t)::l)) (fun e=>GB (P:=fun v=>eJ W (aS W) Ac 4 v [.ref 0,.int f,.int (.ofNat t)]) ⟨.bool _,rY (ft (.int _) (ft (.int _) r8)),60,fun d=>tq W hW f t ht d⟩ e) l) l) l) args
def WO(W:WP):aX:=oc Ac 4 (uk W)
theorem Go{w:Wd}{W:WP}(hW:W.home < 5)(hB:iE w W):ak w (WO W):=db (fun w' hB'=>jl hW hB') (jm W) Ph (rc W hW) hB
theorem Gp(W:WP):ah (WO W):=da _ _ _
theorem TabE.shut1{rows:List (Int×MV)}{dyn:List MV}{ks:List (Bool×Int)}{E:List MV}{D W O:List Int}(t:TabE rows dyn ks E D W O){i:Nat}{vs:List MV}{k:Int}(h1:dyn[i]? =some (.tup vs))(h2:bQ ks i=some k):TabE (rows++bg dyn ks) [.tup vs] [(true,k)] E D W O:=by
 obtain⟨j,g1,g2⟩:=t.at' i vs h1
 have hk:k=Int.ofNat (25+j):=by
  unfold bQ at h2;rw [g2]at h2;exact (oiZ h2).symm
 refine⟨rfl,fun a us h=>?_,fun a z h=>?_,t.shut.rw',t.nd,t.ok,t.dl,t.wl,t.ol⟩
 ·cases a with
  |zero=>
   injection oiZ h with h;subst h
   exact⟨j,g1,by rw [hk];rfl⟩
  |succ a=>simp at h
 ·cases a with
  |zero=>exact⟨vs,rfl⟩
  |succ a=>unfold bQ at h;simp at h
theorem TabE.open1{rows:List (Int×MV)}{dyn:List MV}{ks:List (Bool×Int)}{E0:List MV}{D0 W0 O0:List Int}(t0:TabE rows dyn ks E0 D0 W0 O0){E:List MV}{D W O:List Int}{d1:List MV}{k1:List (Bool×Int)}(t:TabE (rows++bg dyn ks) d1 k1 E D W O):TabE rows dyn ks E D W O:=
 ⟨t0.ln,fun i vs h=>by
  obtain⟨j0,_,g2⟩:=t0.at' i vs h;obtain⟨j,h1,h2⟩:=t.rw' _ _ (mrZ _ (fN h g2))
  exact⟨j,h1,by rw [g2,h2]⟩,t0.tr,fun k row h=>t.rw' k row (mlZ _ h),t.nd,t.ok,t.dl,t.wl,t.ol⟩
theorem KN.one(k:Int):KN [(true,k)]:=fun i j z h1 h2=>by
 cases i with
 |zero=>cases j with
  |zero=>rfl
  |succ j=>unfold bQ at h2;simp at h2
 |succ i=>unfold bQ at h1;simp at h1
section
variable{l:LS}{st:MS}
theorem Now.v26k(n:Now w h₀ L m X l st s)(hB:iE w W)(hb:26≤st.bas){i:Nat}{vs:List MV}{k:Int}(h1:st.dyn[i]? =some (.tup vs))(h2:bQ l.ks i=some k):IsView w (ix w 26 l st) 26 l st [.tup vs] [(true,k)]∧b9 26 26 st.H=aG W∧iE (ix w 26 l st) W:=by
 obtain⟨V,e,B⟩:=n.v26 hB hb
 have hi:st.H[2]? =some .ktb:=by
  have a:(b9 26 26 st.H)[2]? =some .ktb:=by rw [e];kernel_rfl
  rw [eF (by lia)]at a
  obtain⟨o,g1,g2⟩:=ysZ.mp a;rw [ib g2]at g1;exact g1
 obtain⟨⟨E0,D0,W0,O0,⟨t0,_⟩,_⟩,_⟩:=n.H.tab 2 hi
 refine⟨⟨rfl,rfl,V.le,fun a b h=>by simp [ix]at h,KN.one k,fun a z h=>?_,V.kt,V.pl,fun E D W O t=>t.shut1 h1 h2,fun E D W O t=>t0.open1 t⟩,e,B⟩
 cases a with
 |zero=>
  have:k=z:=by unfold bQ at h;cases h;rfl
  subst this;exact n.H.kb i k h2
 |succ a=>unfold bQ at h;simp at h
end
def qG:List MV→Option (List MV×Nat)
 |[]=>none
 |x::r=>match r with
  |[]=>(ZW x).map fun t=>([],t)
  |_::_=>(qG r).map fun q=>(x::q.1,q.2)
theorem nE:∀{args:List MV} {q:List MV×Nat},qG args=some q→args=q.1++[.kd q.2]
 |[],_,h=>aF h
 |[x],_,h=>by
  obtain⟨t,g,rfl⟩:=gU h;exact VE g ▸rfl
 |x::y::r,_,h=>by
  obtain⟨q,g,rfl⟩:=gU h
  exact congrArg (x::·) (nE g)
theorem VRs.snoc_inv{as:List Addr}{ks:List (Bool×Int)}{im:List (Addr×Obj)}:∀{i:List MV} {v:MV} {xs:List Value},VRs as ks im (i++[v]) xs→∃ys y,xs=ys++[y]∧VRs as ks im i ys∧VR as ks im v y
 |[],v,_,h=>by
  obtain⟨y,_,rfl,g,hs⟩:=h.consI;obtain rfl:=hs.nilI;exact⟨[],y,rfl,.nil,g⟩
 |x::i,v,_,h=>by
  obtain⟨z,_,rfl,g,hs⟩:=h.consI;obtain⟨ys,y,rfl,h1,h2⟩:=hs.snoc_inv;exact⟨z::ys,y,rfl,.cons g h1,h2⟩
def ul(f:FI)(dm:Nat)(zv:List MV→MV→Option MV):aX:=fun a d args st=>gd (Nat.beq a f.ad) (gd (Nat.ble 26 st.bas) (gd (Nat.ble dm d) (ob (qG args) fun q=>ob (aH st.dyn q.2) fun r=>ob (e8 r) fun _=>ob (zv q.1 r) fun v=>some (v,st))))
theorem fj(f:FI)(dm:Nat)(zv:List MV→MV→Option MV):ah (ul f dm zv):=fun a d args st v st' e=>
 (show Al (ul f dm zv a d args st) fun p=>Pres st p.2 from .gd fun _=>.gd fun _=>.gd fun _=>.ob fun _ _=>.ob fun _ _=>.ob fun _ _=>.ob fun _ _=>.so Pres.rfl') _ e
theorem fk{W:WP}{O':aX}{f:FI}{dm:Nat}{zv:List MV→MV→Option MV}(hO:∀w',iE w' W→ak w' O')(hP:ah O')(hf:∀P,dT P f)
  (hs:∀i row v,zv i row=some v→jj W O' f dm row v i) {w:Wd} (hB:iE w W):ak w (ul f dm zv):=by
 intro d F S A hA hh R m X l st s f' hf' args zq v st' e n hv Q hQ
 refine (?_:Al (ul f dm zv f'.ad d args st) fun p=>(∀v' s' l',Now w F.h₀ F.L m X l' p.2 s'→Ext l l'→Same s s'→l'.VR p.1 v'→Q (.ok (.ret v')) s')→codeAny (M w) A (.call (.ref f'.ad) ⟨zq,[]⟩) Q s) _ e hQ
 clear e hQ
 refine .gd fun h1=>.gd fun h2=>.gd fun h3=>.ob fun q h5=>.ob fun r h6=>.ob fun vs h7=>.ob fun v0 h4=>.so fun hQ=>?_
 obtain⟨d,rfl⟩:∃d',d=d'+dm:=⟨d - dm,(Nat.sub_add_cancel (lbZ h3)).symm⟩;obtain⟨i,t⟩:=q;obtain rfl:=nE h5;obtain rfl:=di h7;rw [aJ]at h6;obtain⟨ys,y,rfl,q1,q2⟩:=hv.snoc_inv;obtain⟨k,tok,rfl,hk⟩:=q2.kdI;obtain⟨V,e1,B1⟩:=n.v26k hB (lbZ h2) h6 hk;obtain⟨p1,p2,N,p3⟩:=hs i _ _ h4;rw [Nat.eq_of_beq_eq_true h1]
 refine uI ((kQ (hO _ B1) hP N).C (d+dm)) S hA hh R (hf _) n V (by rw [e1];exact p3 d) (by decide) ?_ p1 hQ
 have ea:∀k,(⟨l.RL.take 26,l.im,k⟩:LS).as=l.as.take 26:=fun k=>yqZ
 refine VRs.snoc ?_ (.kd tok rfl);rw [ea];exact VRs.av q1 p2
noncomputable def ej:FI:=⟨491,st 127⟩
noncomputable def nF:List (Nat×Nat):=[(13,4),(16,64),(17,65),(18,66),(19,67),(21,68),(22,69),(23,70)]
def Q5(args:List MV):Option MV:=aR 0 args fun l=>aB dn l fun k l=>aE l ((dS k nF).map fun t=>.int (.ofNat t))
noncomputable def um:List (MV×Nat):=[(.tup [.int 5,.int 16],64),(.tup [.int 5,.int 17],65),(.tup [.int 5,.int 18],66),(.tup [.int 5,.int 19],67),(.tup [.int 5,.int 21],68),(.tup [.int 5,.int 22],69),(.tup [.int 5,.int 23],70),(.tup [.int 9,.int 16],64),(.tup [.int 9,.int 17],65),(.tup [.int 9,.int 18],66),(.tup [.int 9,.int 19],67),(.tup [.int 9,.int 21],68),(.tup [.int 9,.int 22],69),(.tup [.int 9,.int 23],70),(.tup [.int 11,.int 16],64),(.tup [.int 11,.int 17],65),(.tup [.int 11,.int 18],66),(.tup [.int 11,.int 19],67),(.tup [.int 11,.int 21],68),(.tup [.int 11,.int 22],69),(.tup [.int 11,.int 23],70),(.tup [.int 4,.int 16],5),(.tup [.int 4,.int 17],5),(.tup [.int 4,.int 18],5),(.tup [.int 4,.int 19],5),(.tup [.int 4,.int 21],5),(.tup [.int 4,.int 22],5),(.tup [.int 4,.int 23],5),(.tup [.int 8,.int 21],68),(.tup [.int 2,.int 66,.tup [.int 16]],66),(.tup [.int 2,.int 66,.tup [.int 17]],66),(.tup [.int 2,.int 66,.tup [.int 18]],66),(.tup [.int 2,.int 66,.tup [.int 19]],66),(.tup [.int 2,.int 66,.tup [.int 21]],66),(.tup [.int 2,.int 66,.tup [.int 22]],66),(.tup [.int 2,.int 66,.tup [.int 23]],66),(.tup [.int 2,.int 66,.tup [.int 13]],66)]
def un(row:MV):List (MV×Nat)→Option Nat
 |[]=>none
 |p::r=>ob (bP p.1 row) fun b=>match b with
  |true=>some p.2
  |false=>un row r
theorem gX{row:MV}(hr:Sh row){t:Nat}:∀{l:List (MV×Nat)},(∀p ∈ l,Sh p.1)→un row l=some t→(row,t) ∈ l
 |[],_,h=>aF h
 |p::r,hs,h=>by
  obtain⟨b,e,h⟩:=bV h;obtain⟨c,e2,hb⟩:=kc (hs p (.head _)) hr;obtain rfl:=oiZ (e2.symm.trans e)
  cases c with
  |true=>exact hb.mp rfl ▸oiZ h ▸ .head _
  |false=>exact .tail _ (gX hr (fun q hq=>hs q (.tail _ hq)) h)
def em(row:MV):Option Nat:=ob (UE row) fun _=>un row um
noncomputable def oe{α:Type}(P:α→Prop):List α→Prop
 |[]=>True
 |x::r=>P x∧oe P r
theorem dO{α:Type}{P:α→Prop}{x:α}:∀{l:List α},oe P l→x ∈ l→P x
 |y::r,h,hx=>by
  rcases mcZ hx with rfl|hx
  ·exact h.1
  ·exact dO h.2 hx
theorem qH(p:MV×Nat)(hp:p ∈ um):Sh p.1:=fM _ (ai um (fun p=>UE p.1) (fun _=>some ()) (by kernel_rfl) p hp)
theorem uo{row:MV}{t:Nat}(h:em row=some t)(W:WP)(d:Nat):(aA bB 60 (d+4)).cal ej [.ref 0,.kd 0] ⟨aG W,[row],aD,aD⟩=some (.int (.ofNat t),⟨aG W,[row],aD,aD⟩):=by
 obtain⟨_,hs,h⟩:=bV h
 exact ai um (fun p=>(aA bB 60 (d+4)).cal ej [.ref 0,.kd 0] ⟨aG W,[p.1],aD,aD⟩) (fun p=>some (.int (.ofNat p.2),⟨aG W,[p.1],aD,aD⟩)) (by kernel_rfl) (row,t) (gX (fM _ hs) qH h)
theorem uq{k t:Nat}(h:dS k nF=some t)(W:WP)(d:Nat):(aA bB 60 (d+4)).cal ej [.ref 0,.int (.ofNat k)] ⟨aG W,[],aD,aD⟩=some (.int (.ofNat t),⟨aG W,[],aD,aD⟩):=
 ai nF (fun p=>(aA bB 60 (d+4)).cal ej [.ref 0,.int (.ofNat p.1)] ⟨aG W,[],aD,aD⟩) (fun p=>some (.int (.ofNat p.2),⟨aG W,[],aD,aD⟩)) (by kernel_rfl) (k,t) (d2 h)
def Q6(i:List MV)(row:MV):Option MV:=aR 0 i fun l=>aE l ((em row).map fun t=>.int (.ofNat t))
theorem ye(W:WP):∀args v,Q5 args=some v→eJ W bB ej 4 v args:=fun args v=>
 iw (fun l=>UF (P:=fun l=>eJ W bB ej 4 v (.ref 0::l)) (fun k l=>ga (P:=fun l=>eJ W bB ej 4 v (.ref 0::.int (.ofNat k)::l)) (fun e=>
  let ⟨_,h,q⟩:=gU e
  q ▸⟨.int _,rY (ft (.int _) r8),60,uq h W⟩) l) l) args
theorem yf(W:WP):∀i row v,Q6 i row=some v→jj W bB ej 4 row v i:=fun i row v=>
 iw (fun l=>ga (P:=fun l=>jj W bB ej 4 row v (.ref 0::l)) (fun e=>
  let ⟨_,h,q⟩:=gU e
  q ▸⟨.int _,rY r8,60,uo h W⟩) l) i
def ur:aX:=gk (oc ej 4 Q5) (ul ej 4 Q6)
theorem yg{w:Wd}{W:WP}(hB:iE w W):ak w ur:=ac (db (fun w' _=>bI w') bJ AR (ye W) hB) (fk (fun w' _=>bI w') bJ AR (yf W) hB)
theorem yh:ah ur:=ae (da _ _ _) (fj _ _ _)
theorem bA{O:aX}{n d:Nat}{f:FI}{args:List MV}{st:MS}{r:MV×MS}(h:O f.ad d args st=some r):(aA O (n+1) d).cal f args st=some r:=by
 show (match O f.ad d args st with|some r=>some r|none=>_)=some r
 rw [h]
theorem fm{O1 O2:aX}{a d:Nat}{args:List MV}{st:MS}{r:MV×MS}(h:O1 a d args st=some r):gk O1 O2 a d args st=some r:=by
 unfold gk;rw [h]
theorem bo{O1 O2:aX}{a d:Nat}{args:List MV}{st:MS}(h:O1 a d args st=none):gk O1 O2 a d args st=O2 a d args st:=by
 unfold gk;rw [h]
noncomputable def cy:FI:=⟨505,st 129⟩
def bj:Cx:=(fS (st 129)).names
def bM(k:Nat):List Stmt:=(fB (st 129)).drop k
def cS(a b:Int)(zm:MV):Loc:=[(sO "store",.ref 0),(sO "at",.int a),(sO "owner_tid",.int b),(sO "through",zm)]
noncomputable def jQ(r:Option (Bool×MS)):Option (Bool×MS):=match r with
 |some (b,st)=>some (!b,st)
 |none=>none
def ca(r:Option (MV×MS)):Option (Bool×MS):=match r with
 |some (v,st)=>(fR st v).map fun b=>(b,st)
 |none=>none
noncomputable def iz:List Stmt→xpZ
 | .Return (some e) _::_=>e
 |_=>.Constant .none 0 ⟨0,0,0,0⟩
noncomputable def Zh:List Stmt→Pos
 | .Return _ p::_=>p
 |_=>⟨0,0,0,0⟩
theorem iG{O:aX}{n d:Nat}{cx:Cx}{ss tl:List Stmt}{K:List Itm}{zl:Loc}{st:MS}(h:ss=.Return (some (iz ss)) (Zh ss)::tl):(aA O (n+1) d).run cx (.stm ss::K) zl st=(aA O n d).ev cx zl st (iz ss):=by
 generalize iz ss=e at h ⊢;generalize Zh ss=p at h;subst h;rfl
theorem kr{ev:Cx→Loc→MS→xpZ→MR}{cx:Cx}{zl:Loc}{st zz st2:MS}{e:xpZ}{es:List xpZ}{v:MV}{vs:List MV}(h1:ev cx zl st e=some (v,zz))(h2:bU ev cx zl zz es=some (vs,st2)):bU ev cx zl st (e::es)=some (v::vs,st2):=by
 have g:pb (bU ev cx zl zz es) (fun vs st=>some (v::vs,st))=some (v::vs,st2):=by rw [h2];rfl
 show pb (ev cx zl st e) _=_
 rw [h1];exact g
section
variable(O:aX)(n d:Nat)(a b:Int)(zm:MV)(S:MS)
noncomputable def yi:xpZ→xpZ
 | .UnaryOp _ x _=>x
 |_=>.Constant .none 0 ⟨0,0,0,0⟩
theorem Q8:(aA O (n+4) d).ev bj (cS a b zm) S (yi (aq (bM 0)))=(aA O (n+3) d).cal fO [.ref 0,.int a,.int b] S:=by kernel_rfl
def cA(i:Nat):xpZ→xpZ
 | .Call _ l _ _=>aW l i
 |_=>.Constant .none 0 ⟨0,0,0,0⟩
noncomputable def WQ(r:Option (List MV×MS))(f:List MV→MS→MR):MR:=match r with
 |some (vs,st)=>f vs st
 |none=>none
theorem Gq:(aA O (n+6) d).ev bj (cS a b zm) S (iz (bM 2))=WQ (bU (aA O (n+5) d).ev bj (cS a b zm) S [cA 0 (iz (bM 2)),cA 1 (iz (bM 2)),cA 2 (iz (bM 2))]) (fun vs st=>(aA O (n+5) d).cal fO vs st):=by kernel_rfl
theorem Gr:(aA O (n+5) d).ev bj (cS a b zm) S (cA 0 (iz (bM 2)))=some (.ref 0,S):=by kernel_rfl
theorem Gs:(aA O (n+5) d).ev bj (cS a b zm) S (cA 1 (iz (bM 2)))=(aA O (n+4) d).cal ej [.ref 0,zm] S:=by kernel_rfl
theorem Gu:(aA O (n+5) d).ev bj (cS a b zm) S (cA 2 (iz (bM 2)))=some (.int a,S):=by kernel_rfl
theorem Q9{v:MV}(h:(aA O (n+4) d).cal ej [.ref 0,zm] S=some (v,S)):(aA O (n+6) d).ev bj (cS a b zm) S (iz (bM 2))=(aA O (n+5) d).cal fO [.ref 0,v,.int a] S:=by
 rw [Gq]
 have e:bU (aA O (n+5) d).ev bj (cS a b zm) S [cA 0 (iz (bM 2)),cA 1 (iz (bM 2)),cA 2 (iz (bM 2))]=some ([.ref 0,v,.int a],S):=
  kr (Gr ..) (kr ((Gs ..).trans h) (kr (Gu ..) rfl))
 rw [e];rfl
theorem Qa{c:Bool}(h:(aA O (n+3) d).cal fO [.ref 0,.int a,.int b] S=some (.bool c,S)):(aA O (n+6) d).tst bj (cS a b zm) S (aq (bM 0))=some (!c,S):=by
 have e0:(aA O (n+6) d).tst bj (cS a b zm) S (aq (bM 0))=jQ ((aA O (n+5) d).tst bj (cS a b zm) S (yi (aq (bM 0)))):=by kernel_rfl
 have e1:(aA O (n+5) d).tst bj (cS a b zm) S (yi (aq (bM 0)))=ca ((aA O (n+4) d).ev bj (cS a b zm) S (yi (aq (bM 0)))):=by kernel_rfl
 rw [e0,e1,Q8,h];rfl
theorem Qb(K:List Itm)(zl:Loc):(aA O (n+11) d).run bj (.stm (d9 (bM 0))::K) zl S=some (.bool false,S):=by kernel_rfl
theorem Qc(K:List Itm)(zl:Loc):(aA O (n+11) d).run bj (.stm (dp (bM 0))::K) zl S=(aA O (n+10) d).run bj K zl S:=by kernel_rfl
theorem Gv(K:List Itm)(zl:Loc):(aA O (n+9) d).run bj (.stm (d9 (bM 1))::K) zl S=some (.bool true,S):=by kernel_rfl
theorem Gw(K:List Itm)(zl:Loc):(aA O (n+9) d).run bj (.stm (dp (bM 1))::K) zl S=(aA O (n+8) d).run bj K zl S:=by kernel_rfl
theorem iH{c u e:Bool}{v:MV}(h1:O 484 d [.ref 0,.int a,.int b] S=some (.bool c,S))(h2:(aA O (n+9) d).tst bj (cS a b zm) S (aq (bM 1))=some (u,S))
  (h3:u=false→O 491 d [.ref 0,zm] S=some (v,S)) (h4:u=false→O 484 d [.ref 0,v,.int a] S=some (.bool e,S)):
  (aA O (n+12) d).run bj [.stm (bM 0)] (cS a b zm) S=some (.bool (b2 c (b2 u true e) false),S):=by
 have t1:=Qa O (n+5) d a b zm S (bA (f:=fO) h1)
 refine (aP (n:=n+11) (tl:=bM 1) (by kernel_rfl) t1).trans ?_
 cases c with
 |false=>exact Qb O n d S _ _
 |true=>
  refine (Qc O n d S _ _).trans ?_
  refine (aP (n:=n+9) (tl:=bM 2) (by kernel_rfl) h2).trans ?_
  cases u with
  |true=>exact Gv O n d S _ _
  |false=>
   refine (Gw O n d S _ _).trans ?_
   refine (iG (n:=n+7) (tl:=[]) (by kernel_rfl)).trans ?_
   refine (Q9 O (n+1) d a b zm S (bA (f:=ej) (h3 rfl))).trans ?_;exact bA (f:=fO) (h4 rfl)
theorem Qd:(aA O (n+13) (d+1)).cal cy [.ref 0,.int a,.int b,zm] S=(match O 505 (d+1) [.ref 0,.int a,.int b,zm] S with|some r=>some r|none=>aL S ((aA O (n+12) d).run bj [.stm (bM 0)] (cS a b zm) ⟨S.H,S.dyn,aD,S.bas⟩)):=by kernel_rfl
theorem Gx:(aA O (n+9) d).tst bj (cS a b (.int (-1))) S (aq (bM 1))=some (true,S):=by kernel_rfl
theorem Gy:(aA O (n+9) d).tst bj (cS a b (.int 14)) S (aq (bM 1))=some (true,S):=by kernel_rfl
theorem Gz:(aA O (n+9) d).tst bj (cS a b (.kd 0)) S (aq (bM 1))=some (false,S):=by kernel_rfl
theorem HA(k:Nat)(hk:k ∈ [13,16,17,18,19,21,22,23]):(aA O (n+9) d).tst bj (cS a b (.int (.ofNat k))) S (aq (bM 1))=some (false,S):=
 ai [13,16,17,18,19,21,22,23] (fun k=>(aA O (n+9) d).tst bj (cS a b (.int (.ofNat k))) S (aq (bM 1))) (fun _=>some (false,S)) (by kernel_rfl) k hk
end
def ao(W:WP):aX:=gk (r9 W) ur
theorem nG{w:Wd}{W:WP}(hB:iE w W):ak w (ao W):=ac (yb hB) (yg hB)
theorem nH(W:WP):ah (ao W):=ae (yc W) yh
theorem gm:Nat.ble 26 aD=true:=by decide
theorem dc(k d:Nat):Nat.ble k (d+k)=true:=blZ (by lia)
theorem gY{f:FI}{dm:Nat}{zv:List MV→Option MV}{d:Nat}{args:List MV}{st:MS}{v:MV}(hb:Nat.ble 26 st.bas=true)(hd:Nat.ble dm d=true)(h:zv args=some v):oc f dm zv f.ad d args st=some (v,st):=by
 unfold oc
 rw [show Nat.beq f.ad f.ad=true from Nat.beq_refl _,hb,hd,h]
 rfl
theorem cT{f:FI}{dm:Nat}{zv:List MV→Option MV}{a d:Nat}{args:List MV}{st:MS}(h:Nat.beq a f.ad=false∨zv args=none):oc f dm zv a d args st=none:=by
 unfold oc;rcases h with h|h
 ·rw [h];rfl
 ·rw [h]
  cases Nat.beq a f.ad <;>cases Nat.ble 26 st.bas <;>cases Nat.ble dm d <;>rfl
theorem il{f:FI}{dm:Nat}{zv:List MV→MV→Option MV}{d:Nat}{args i:List MV}{t:Nat}{vs:List MV}{st:MS}{v:MV}(hb:Nat.ble 26 st.bas=true)(hd:Nat.ble dm d=true)(ha:qG args=some (i,t))(hg:aH st.dyn t=some (.tup vs))(h:zv i (.tup vs)=some v):ul f dm zv f.ad d args st=some (v,st):=by
 unfold ul
 rw [show Nat.beq f.ad f.ad=true from Nat.beq_refl _,hb,hd,ha]
 show ob (aH st.dyn t) _=_
 rw [hg]
 show ob (zv i (.tup vs)) _=_
 rw [h];rfl
theorem ku(W:WP){a b:Nat}(ha:aQ a [1,4,5,64,65,66,67,68,69,70]=true)(hb:aQ b [64,65,66,67,68,69,70]=true)(dyn:List MV)(d:Nat):ao W 484 (d+4) [.ref 0,.int (.ofNat a),.int (.ofNat b)] ⟨aG W,dyn,aD,aD⟩=some (.bool (jP W a b),⟨aG W,dyn,aD,aD⟩):=by
 refine fm (gY (f:=fO) gm (dc 4 d) ?_)
 show ob (gd (aQ a [1,4,5,64,65,66,67,68,69,70]) (some a)) (fun a=>ob (gd (aQ b [64,65,66,67,68,69,70]) (some b)) fun b=>some (MV.bool (jP W a b)))=_
 rw [ha,hb];rfl
theorem ut(W:WP){k t:Nat}(h:dS k nF=some t)(d:Nat)(dyn:List MV):ao W 491 (d+4) [.ref 0,.int (.ofNat k)] ⟨aG W,dyn,aD,aD⟩=some (.int (.ofNat t),⟨aG W,dyn,aD,aD⟩):=by
 unfold ao r9;rw [bo (cT (.inl rfl))];refine fm (gY (f:=ej) gm (dc 4 d) ?_)
 show (dS k nF).map (fun t=>MV.int (.ofNat t))=_
 rw [h];rfl
theorem uu(W:WP){vs:List MV}{t:Nat}(h:em (.tup vs)=some t)(d:Nat):ao W 491 (d+4) [.ref 0,.kd 0] ⟨aG W,[.tup vs],aD,aD⟩=some (.int (.ofNat t),⟨aG W,[.tup vs],aD,aD⟩):=by
 unfold ao r9;rw [bo (cT (.inl rfl))];unfold ur;rw [bo (cT (.inr rfl))];refine il (f:=ej) (t:=0) (i:=[.ref 0]) (vs:=vs) gm (dc 4 d) rfl rfl ?_
 show (em (.tup vs)).map (fun t=>MV.int (.ofNat t))=_
 rw [h];rfl
def jR(W:WP)(a b:Nat)(t:Option Nat):Bool:=b2 (jP W a b) (match t with|none=>true|some t=>jP W t a) false
def gZ(zm:MV):Option (Option Nat):=ob (b8 zm) fun i=>match i with
 | .negSucc n=>gd (Nat.beq n 0) (some none)
 | .ofNat k=>match Nat.beq k 14 with
  |true=>some none
  |false=>(dS k nF).map some
def Qe(W:WP)(args:List MV):Option MV:=aR 0 args fun l=>aN [64,65,66,67,68,69,70] l fun a l=>aN [64,65,66,67,68,69,70] l fun b l=>aV l fun zm l=>aE l ((gZ zm).map fun t=>.bool (jR W a b t))
def Qf(W:WP)(i:List MV)(row:MV):Option MV:=aR 0 i fun l=>aN [64,65,66,67,68,69,70] l fun a l=>aN [64,65,66,67,68,69,70] l fun b l=>aE l ((em row).map fun t=>.bool (jR W a b (some t)))
theorem Qg:∀a ∈ [64,65,66,67,68,69,70],aQ a [1,4,5,64,65,66,67,68,69,70]=true:=by decide+kernel
theorem dq:∀a ∈ [64,65,66,67,68,69,70],aQ a [64,65,66,67,68,69,70]=true:=by decide+kernel
theorem HB{k t:Nat}(h:dS k nF=some t):k ∈ [13,16,17,18,19,21,22,23]∧aQ t [1,4,5,64,65,66,67,68,69,70]=true:=
 (show ∀p ∈ nF,p.1 ∈ [13,16,17,18,19,21,22,23]∧aQ p.2 [1,4,5,64,65,66,67,68,69,70]=true by decide+kernel) (k,t) (d2 h)
theorem Ae(W:WP)(dyn:List MV)(b:Bool):aL ⟨aG W,dyn,aD,aD⟩ (some (.bool b,⟨aG W,dyn,aD,aD⟩))=some (.bool b,⟨aG W,dyn,aD,aD⟩):=by kernel_rfl
theorem HC(W:WP)(d:Nat)(args:List MV)(st:MS):ao W 505 d args st=none:=by
 unfold ao r9 ur;rw [bo (cT (.inl rfl)),bo (cT (.inl rfl))];rfl
theorem iI(W:WP){a b:Nat}{zm:MV}{dyn:List MV}{r:Bool}(d:Nat)(h:(aA (ao W) 12 (d+4)).run bj [.stm (bM 0)] (cS (.ofNat a) (.ofNat b) zm) ⟨aG W,dyn,aD,aD⟩=some (.bool r,⟨aG W,dyn,aD,aD⟩)):
  (aA (ao W) 13 (d+5)).cal cy [.ref 0,.int (.ofNat a),.int (.ofNat b),zm] ⟨aG W,dyn,aD,aD⟩=some (.bool r,⟨aG W,dyn,aD,aD⟩):=by
 have e:=Qd (ao W) 0 (d+4) (.ofNat a) (.ofNat b) zm ⟨aG W,dyn,aD,aD⟩;rw [HC]at e;refine e.trans ?_
 show aL _ ((aA (ao W) 12 (d+4)).run bj [.stm (bM 0)] (cS (.ofNat a) (.ofNat b) zm) ⟨aG W,dyn,aD,aD⟩)=_
 rw [h];exact Ae W dyn r
theorem HD{row:MV}{t:Nat}(h:em row=some t):aQ t [1,4,5,64,65,66,67,68,69,70]=true:=by
 obtain⟨_,hs,h⟩:=bV h
 exact (show ∀p ∈ um,aQ p.2 [1,4,5,64,65,66,67,68,69,70]=true by decide+kernel) (row,t) (gX (fM _ hs) qH h)
theorem uv(W:WP){a b:Nat}(ha:a ∈ [64,65,66,67,68,69,70])(hb:b ∈ [64,65,66,67,68,69,70]){zm:MV}:Al (gZ zm) fun t=>eJ W (ao W) cy 5 (.bool (jR W a b t)) [.ref 0,.int (.ofNat a),.int (.ofNat b),zm]:=by
 have d1:=fun d=>ku W (Qg a ha) (dq b hb) [] d
 have av:∀(x:Int),∀y ∈ [MV.ref 0,.int (.ofNat a),.int (.ofNat b),.int x],Av 26 y:=fun x=>rY (ft (.int _) (ft (.int _) (ft (.int _) r8)))
 refine .ob fun i hi=>?_
 obtain rfl:=bd hi
 cases i with
 |negSucc n=>
  refine .gd fun hn=>.so ?_
  obtain rfl:=ebZ hn
  exact⟨.bool _,av _,13,fun d=>iI W d (iH (ao W) 0 (d+4) _ _ _ _ (v:=.none) (e:=false) (d1 d) (Gx _ 0 _ _ _ _) Fz Fz)⟩
 |ofNat k=>
  refine .bl (fun hk=>.so ?_) fun _=>.mp fun t hk=>?_
  ·obtain rfl:=ebZ hk
   exact⟨.bool _,av _,13,fun d=>iI W d (iH (ao W) 0 (d+4) _ _ _ _ (v:=.none) (e:=false) (d1 d) (Gy _ 0 _ _ _ _) Fz Fz)⟩
  ·obtain⟨k1,k2⟩:=HB hk
   exact⟨.bool _,av _,13,fun d=>iI W d (iH (ao W) 0 (d+4) _ _ _ _ (d1 d) (HA _ 0 _ _ _ _ k k1) (fun _=>ut W hk d []) (fun _=>ku W k2 (dq a ha) [] d))⟩
theorem yj(W:WP):∀args v,Qe W args=some v→eJ W (ao W) cy 5 v args:=fun args v=>
 iw (fun l=>gA (P:=fun l=>eJ W (ao W) cy 5 v (.ref 0::l)) (fun a ha l=>gA (P:=fun l=>eJ W (ao W) cy 5 v (.ref 0::.int (.ofNat a)::l)) (fun b hb l=>GA (P:=fun l=>eJ W (ao W) cy 5 v (.ref 0::.int (.ofNat a)::.int (.ofNat b)::l)) (fun zm l=>ga (P:=fun l=>eJ W (ao W) cy 5 v (.ref 0::.int (.ofNat a)::.int (.ofNat b)::zm::l)) (fun e=>
  let ⟨t,h,q⟩:=gU e
  q ▸uv W ha hb t h) l) l) l) l) args
theorem yk(W:WP):∀i row v,Qf W i row=some v→jj W (ao W) cy 5 row v i:=fun i row v=>
 iw (fun l=>gA (P:=fun l=>jj W (ao W) cy 5 row v (.ref 0::l)) (fun a ha l=>gA (P:=fun l=>jj W (ao W) cy 5 row v (.ref 0::.int (.ofNat a)::l)) (fun b hb l=>ga (P:=fun l=>jj W (ao W) cy 5 row v (.ref 0::.int (.ofNat a)::.int (.ofNat b)::l)) (fun e=>by
  obtain⟨t,h,rfl⟩:=gU e;obtain⟨_,hs,_⟩:=bV h;obtain⟨vs,rfl⟩:=(fM _ hs).tupE
  exact⟨.bool _,rY (ft (.int _) (ft (.int _) r8)),13,fun d=>iI W d (iH (ao W) 0 (d+4) _ _ _ _ (ku W (Qg a ha) (dq b hb) _ d) (Gz _ 0 _ _ _ _) (fun _=>uu W h d) (fun _=>ku W (HD h) (dq a ha) _ d))⟩) l) l) l) i
def cI(W:WP):aX:=gk (oc cy 5 (Qe W)) (ul cy 5 (Qf W))
theorem qI{w:Wd}{W:WP}(hB:iE w W):ak w (cI W):=ac (db (fun w' hB'=>nG hB') (nH W) AS (yj W) hB) (fk (fun w' hB'=>nG hB') (nH W) AS (yk W) hB)
theorem qJ(W:WP):ah (cI W):=ae (da _ _ _) (fj _ _ _)
theorem Qh{ih:Ih}{cx:Cx}{zl:Loc}{st:MS}{e1 e2:xpZ}{a b:Bool}(h1:ih.tst cx zl st e1=some (a,st))(h2:ih.tst cx zl st e2=some (b,st)):cF ih cx zl .Or st [e1,e2]=some (b2 a true b,st):=by
 unfold cF;rw [h1]
 cases a with
 |true=>rfl
 |false=>
  show cF ih cx zl .Or st [e2]=_
  unfold cF;rw [h2]
  cases b <;>rfl
theorem qK{ih:Ih}{cx:Cx}{zl:Loc}{st:MS}{e1 e2:xpZ}{a:Bool}{r:MR}(h1:ih.ev cx zl st e1=some (.bool a,st))(h2:a=false→ih.ev cx zl st e2=r):dW ih cx zl .Or st [e1,e2]=b2 a (some (.bool true,st)) r:=by
 unfold dW;rw [h1]
 cases a with
 |true=>rfl
 |false=>exact h2 rfl
theorem eK{ih:Ih}{cx:Cx}{zl:Loc}{st:MS}{e1 e2:xpZ}{a:Bool}{r:MR}(h1:ih.ev cx zl st e1=some (.bool a,st))(h2:a=true→ih.ev cx zl st e2=r):dW ih cx zl .And st [e1,e2]=b2 a r (some (.bool false,st)):=by
 unfold dW;rw [h1]
 cases a with
 |true=>exact h2 rfl
 |false=>rfl
noncomputable def kx:FI:=⟨512,st 130⟩
def fE:Cx:=(fS (st 130)).names
def dP(k:Nat):List Stmt:=(fB (st 130)).drop k
def uw(a b zo:Int)(zm:MV):Loc:=[(sO "store",.ref 0),(sO "at",.int a),(sO "owner_tid",.int b),(sO "access",.int zo),(sO "through",zm)]
def nI(a b zo:Int)(zm:MV)(c:Bool):Loc:=[(sO "store",.ref 0),(sO "at",.int a),(sO "owner_tid",.int b),(sO "access",.int zo),(sO "through",zm),(sO "enclosed",.bool c)]
section
variable(O:aX)(n d:Nat)(a b zo:Int)(zm:MV)(S:MS)(c:Bool)
theorem Qi:(aA O (n+6) d).tst fE (uw a b zo zm) S (aq (dP 0))=some (b2 (eqB zo 6) true (eqB a b),S):=by
 have e:(aA O (n+6) d).tst fE (uw a b zo zm) S (aq (dP 0))=cF (aA O (n+5) d) fE (uw a b zo zm) .Or S [aW (cY (aq (dP 0))) 0,aW (cY (aq (dP 0))) 1]:=by kernel_rfl
 rw [e]
 exact Qh (by kernel_rfl) (by kernel_rfl)
theorem Qj:(aA O (n+6) d).tst fE (uw a b zo zm) S (aq (dP 1))=some (eqB zo 1,S):=by kernel_rfl
theorem Qk:(aA O (n+6) d).tst fE (nI a b zo zm c) S (aq (dP 3))=some (eqB zo 3,S):=by kernel_rfl
theorem Ql:(aA O (n+6) d).tst fE (nI a b zo zm c) S (aq (dP 4))=some (eqB zo 4,S):=by kernel_rfl
theorem Qm:(aA O (n+6) d).tst fE (nI a b zo zm c) S (aq (dP 5))=some (eqB zo 5,S):=by kernel_rfl
theorem Qn:(aA O (n+6) d).tst fE (nI a b zo zm c) S (aq (dP 6))=some (eqB zo 2,S):=by kernel_rfl
theorem Qo(K:List Itm)(zl:Loc):(aA O (n+4) d).run fE (.stm (d9 (dP 0))::K) zl S=some (.bool true,S):=by kernel_rfl
theorem Qp(K:List Itm)(zl:Loc):(aA O (n+4) d).run fE (.stm (dp (dP 0))::K) zl S=(aA O (n+3) d).run fE K zl S:=by kernel_rfl
theorem Qq(K:List Itm)(zl:Loc):(aA O (n+4) d).run fE (.stm (d9 (dP 1))::K) zl S=some (.bool false,S):=by kernel_rfl
theorem Qr(K:List Itm):(aA O (n+4) d).run fE (.stm (d9 (dP 3))::K) (nI a b zo zm c) S=some (.bool c,S):=by kernel_rfl
theorem Qs(K:List Itm):(aA O (n+4) d).run fE (.stm (d9 (dP 4))::K) (nI a b zo zm c) S=(aA O (n+2) d).cal cy [.ref 0,.int a,.int b,zm] S:=by kernel_rfl
theorem Qt(K:List Itm):(aA O (n+5) d).run fE (.stm (d9 (dP 5))::K) (nI a b zo zm c) S=b2 c (some (.bool true,S)) ((aA O (n+2) d).cal cy [.ref 0,.int a,.int b,zm] S):=by
 have e:(aA O (n+5) d).run fE (.stm (d9 (dP 5))::K) (nI a b zo zm c) S=dW (aA O (n+3) d) fE (nI a b zo zm c) .Or S [aW (cY (iz (d9 (dP 5)))) 0,aW (cY (iz (d9 (dP 5)))) 1]:=by kernel_rfl
 rw [e]
 exact qK (by kernel_rfl) (fun _=>by kernel_rfl)
theorem Qu(K:List Itm):(aA O (n+5) d).run fE (.stm (d9 (dP 6))::K) (nI a b zo zm c) S=b2 c ((aA O (n+2) d).cal cy [.ref 0,.int a,.int b,zm] S) (some (.bool false,S)):=by
 have e:(aA O (n+5) d).run fE (.stm (d9 (dP 6))::K) (nI a b zo zm c) S=dW (aA O (n+3) d) fE (nI a b zo zm c) .And S [aW (cY (iz (d9 (dP 6)))) 0,aW (cY (iz (d9 (dP 6)))) 1]:=by kernel_rfl
 rw [e]
 exact eK (by kernel_rfl) (fun _=>by kernel_rfl)
theorem WR(zl:Loc):(aA O (n+4) d).run fE [.stm (dP 7)] zl S=some (.bool false,S):=by kernel_rfl
def Qv(a b zo:Int)(enc fam:Bool):Bool:=b2 (b2 (eqB zo 6) true (eqB a b)) true (b2 (eqB zo 1) false (b2 (eqB zo 3) enc (b2 (eqB zo 4) fam (b2 (eqB zo 5) (b2 enc true fam) (b2 (eqB zo 2) (b2 enc fam false) false)))))
theorem HE{fam:Bool}(he:∀n,(aA O (n+6) d).ev fE (uw a b zo zm) S (bY (dP 2))=some (.bool c,S))(hf:O 505 d [.ref 0,.int a,.int b,zm] S=some (.bool fam,S)):
  (aA O (n+30) d).run fE [.stm (dP 0)] (uw a b zo zm) S=some (.bool (Qv a b zo c fam),S):=by
 unfold Qv
 have hc:∀n,(aA O (n+1) d).cal cy [.ref 0,.int a,.int b,zm] S=some (.bool fam,S):=fun n=>bA (f:=cy) hf
 refine (aP (n:=n+29) (tl:=dP 1) (by kernel_rfl) (Qi O (n+23) d a b zo zm S)).trans ?_
 cases b2 (eqB zo 6) true (eqB a b)with
 |true=>exact Qo O (n+25) d S _ _
 |false=>
  refine (Qp O (n+25) d S _ _).trans ?_
  refine (aP (n:=n+27) (tl:=dP 2) (by kernel_rfl) (Qj O (n+21) d a b zo zm S)).trans ?_
  cases eqB zo 1 with
  |true=>exact Qq O (n+23) d S _ _
  |false=>
   refine (show _=(aA O (n+26) d).run fE [.stm (dP 2)] (uw a b zo zm) S by kernel_rfl).trans ?_
   refine (a8 (n:=n+25) (tl:=dP 3) (zu:=nI a b zo zm c) (st2:=S) (by kernel_rfl) (by kernel_rfl) (he (n+19)) (by kernel_rfl)).trans ?_
   refine (aP (n:=n+24) (tl:=dP 4) (by kernel_rfl) (Qk O (n+18) d a b zo zm S c)).trans ?_
   cases eqB zo 3 with
   |true=>exact Qr O (n+20) d a b zo zm S c _
   |false=>
    refine (show _=(aA O (n+23) d).run fE [.stm (dP 4)] (nI a b zo zm c) S by kernel_rfl).trans ?_
    refine (aP (n:=n+22) (tl:=dP 5) (by kernel_rfl) (Ql O (n+16) d a b zo zm S c)).trans ?_
    cases eqB zo 4 with
    |true=>exact (Qs O (n+18) d a b zo zm S c _).trans (hc _)
    |false=>
     refine (show _=(aA O (n+21) d).run fE [.stm (dP 5)] (nI a b zo zm c) S by kernel_rfl).trans ?_
     refine (aP (n:=n+20) (tl:=dP 6) (by kernel_rfl) (Qm O (n+14) d a b zo zm S c)).trans ?_
     cases eqB zo 5 with
     |true=>
      refine (Qt O (n+15) d a b zo zm S c _).trans ?_;rw [hc]
      cases c <;>rfl
     |false=>
      refine (show _=(aA O (n+19) d).run fE [.stm (dP 6)] (nI a b zo zm c) S by kernel_rfl).trans ?_
      refine (aP (n:=n+18) (tl:=dP 7) (by kernel_rfl) (Qn O (n+12) d a b zo zm S c)).trans ?_
      cases eqB zo 2 with
      |true=>
       refine (Qu O (n+13) d a b zo zm S c _).trans ?_;rw [hc]
       cases c <;>rfl
      |false=>
       refine (show _=(aA O (n+17) d).run fE [.stm (dP 7)] (nI a b zo zm c) S by kernel_rfl).trans ?_
       exact WR O (n+13) d S _
end
section
variable(W:WP)(dyn:List MV)(O:aX)(n d:Nat)(zo:Int)(zm:MV)
abbrev WS(a b:Nat):Prop:=∀(W:WP) (dyn:List MV) (O:aX) (n d:Nat) (zo:Int) (zm:MV),(aA O (n+6) d).ev fE (uw (.ofNat a) (.ofNat b) zo zm) ⟨aG W,dyn,aD,aD⟩ (bY (dP 2))=some (.bool (eqB (aU W (Nat.sub a 64)) (aU W (Nat.sub b 64))),⟨aG W,dyn,aD,aD⟩)
theorem HF{a b:Nat}(ha:aQ a [64,65,66,67,68,69,70]=true)(hb:aQ b [64,65,66,67,68,69,70]=true):WS a b:=fun W dyn O n d zo zm=>
 ai (uj [64,65,66,67,68,69,70] [64,65,66,67,68,69,70]) (fun p=>(aA O (n+6) d).ev fE (uw (.ofNat p.1) (.ofNat p.2) zo zm) ⟨aG W,dyn,aD,aD⟩ (bY (dP 2))) (fun p=>some (.bool (eqB (aU W (Nat.sub p.1 64)) (aU W (Nat.sub p.2 64))),⟨aG W,dyn,aD,aD⟩)) (by kernel_rfl) (a,b) (bu (cN ha) (cN hb))
end
theorem WT(O:aX)(n d:Nat)(a b zo:Int)(zm:MV)(S:MS):(aA O (n+31) (d+1)).cal kx [.ref 0,.int a,.int b,.int zo,zm] S=(match O 512 (d+1) [.ref 0,.int a,.int b,.int zo,zm] S with|some r=>some r|none=>aL S ((aA O (n+30) d).run fE [.stm (dP 0)] (uw a b zo zm) ⟨S.H,S.dyn,aD,S.bas⟩)):=by kernel_rfl
def qL(W:WP)(a b:Nat)(zo:Int)(t:Option Nat):Bool:=Qv (.ofNat a) (.ofNat b) zo (eqB (aU W (Nat.sub a 64)) (aU W (Nat.sub b 64))) (jR W a b t)
def Zi(W:WP)(args:List MV):Option MV:=aR 0 args fun l=>aN [64,65,66,67,68,69,70] l fun a l=>aN [64,65,66,67,68,69,70] l fun b l=>aI l fun zo l=>aV l fun zm l=>aE l ((gZ zm).map fun t=>.bool (qL W a b zo t))
def Zj(W:WP)(i:List MV)(row:MV):Option MV:=aR 0 i fun l=>aN [64,65,66,67,68,69,70] l fun a l=>aN [64,65,66,67,68,69,70] l fun b l=>aI l fun zo l=>aE l ((em row).map fun t=>.bool (qL W a b zo (some t)))
theorem ux(W:WP){a b:Nat}{zm:MV}{t:Option Nat}(ha:aQ a [64,65,66,67,68,69,70]=true)(hb:aQ b [64,65,66,67,68,69,70]=true)(ht:gZ zm=some t)(dyn:List MV)(d:Nat):cI W 505 (d+5) [.ref 0,.int (.ofNat a),.int (.ofNat b),zm] ⟨aG W,dyn,aD,aD⟩=some (.bool (jR W a b t),⟨aG W,dyn,aD,aD⟩):=by
 refine fm (gY (f:=cy) gm (dc 5 d) ?_)
 show ob (gd (aQ a [64,65,66,67,68,69,70]) (some a)) (fun a=>ob (gd (aQ b [64,65,66,67,68,69,70]) (some b)) fun b=>(gZ zm).map fun t=>MV.bool (jR W a b t))=_
 rw [ha,hb,ht];rfl
theorem uy(W:WP){a b:Nat}{vs:List MV}{t:Nat}(ha:aQ a [64,65,66,67,68,69,70]=true)(hb:aQ b [64,65,66,67,68,69,70]=true)(ht:em (.tup vs)=some t)(d:Nat):cI W 505 (d+5) [.ref 0,.int (.ofNat a),.int (.ofNat b),.kd 0] ⟨aG W,[.tup vs],aD,aD⟩=some (.bool (jR W a b (some t)),⟨aG W,[.tup vs],aD,aD⟩):=by
 unfold cI;rw [bo (cT (.inr ?_))]
 ·refine il (f:=cy) (t:=0) (i:=[.ref 0,.int (.ofNat a),.int (.ofNat b)]) (vs:=vs) gm (dc 5 d) rfl rfl ?_
  show ob (gd (aQ a [64,65,66,67,68,69,70]) (some a)) (fun a=>ob (gd (aQ b [64,65,66,67,68,69,70]) (some b)) fun b=>(em (.tup vs)).map fun t=>MV.bool (jR W a b (some t)))=_
  rw [ha,hb,ht];rfl
 ·show ob (gd (aQ a [64,65,66,67,68,69,70]) (some a)) (fun a=>ob (gd (aQ b [64,65,66,67,68,69,70]) (some b)) fun b=>(none:Option MV))=_
  rw [ha,hb];rfl
theorem yl(W:WP)(d:Nat)(args:List MV)(st:MS):cI W 512 d args st=none:=by
 unfold cI;rw [bo (cT (.inl rfl))];rfl
theorem uz(W:WP){a b:Nat}{zo:Int}{zm:MV}{dyn:List MV}{fam:Bool}(ha:aQ a [64,65,66,67,68,69,70]=true)(hb:aQ b [64,65,66,67,68,69,70]=true)(d:Nat)(h:cI W 505 (d+5) [.ref 0,.int (.ofNat a),.int (.ofNat b),zm] ⟨aG W,dyn,aD,aD⟩=some (.bool fam,⟨aG W,dyn,aD,aD⟩)):
  (aA (cI W) 31 (d+6)).cal kx [.ref 0,.int (.ofNat a),.int (.ofNat b),.int zo,zm] ⟨aG W,dyn,aD,aD⟩=some (.bool (Qv (.ofNat a) (.ofNat b) zo (eqB (aU W (Nat.sub a 64)) (aU W (Nat.sub b 64))) fam),⟨aG W,dyn,aD,aD⟩):=by
 have e:=WT (cI W) 0 (d+5) (.ofNat a) (.ofNat b) zo zm ⟨aG W,dyn,aD,aD⟩;rw [yl]at e;refine e.trans ?_
 have r:=HE (cI W) 0 (d+5) (.ofNat a) (.ofNat b) zo zm ⟨aG W,dyn,aD,aD⟩ _ (fun n=>HF ha hb W dyn (cI W) n (d+5) zo zm) h
 show aL _ ((aA (cI W) (0+30) (d+5)).run fE [.stm (dP 0)] (uw (.ofNat a) (.ofNat b) zo zm) ⟨aG W,dyn,aD,aD⟩)=_
 rw [r];exact Ae W dyn _
theorem nJ{zm:MV}{t:Option Nat}(h:gZ zm=some t):∃x,zm=.int x:=
 let ⟨x,h,_⟩:=bV h
 ⟨x,bd h⟩
theorem HG(W:WP):∀args v,Zi W args=some v→eJ W (cI W) kx 6 v args:=fun args v=>
 iw (fun l=>gA (P:=fun l=>eJ W (cI W) kx 6 v (.ref 0::l)) (fun a ha l=>gA (P:=fun l=>eJ W (cI W) kx 6 v (.ref 0::.int (.ofNat a)::l)) (fun b hb l=>wY (P:=fun l=>eJ W (cI W) kx 6 v (.ref 0::.int (.ofNat a)::.int (.ofNat b)::l)) (fun zo l=>GA (P:=fun l=>eJ W (cI W) kx 6 v (.ref 0::.int (.ofNat a)::.int (.ofNat b)::.int zo::l)) (fun zm l=>ga (P:=fun l=>eJ W (cI W) kx 6 v (.ref 0::.int (.ofNat a)::.int (.ofNat b)::.int zo::zm::l)) (fun e=>by
  obtain⟨t,h,rfl⟩:=gU e;obtain⟨x,rfl⟩:=nJ h
  exact⟨.bool _,rY (ft (.int _) (ft (.int _) (ft (.int _) (ft (.int _) r8)))),31,fun d=>uz W (dq a ha) (dq b hb) d (ux W (dq a ha) (dq b hb) h [] d)⟩) l) l) l) l) l) args
theorem HH(W:WP):∀i row v,Zj W i row=some v→jj W (cI W) kx 6 row v i:=fun i row v=>
 iw (fun l=>gA (P:=fun l=>jj W (cI W) kx 6 row v (.ref 0::l)) (fun a ha l=>gA (P:=fun l=>jj W (cI W) kx 6 row v (.ref 0::.int (.ofNat a)::l)) (fun b hb l=>wY (P:=fun l=>jj W (cI W) kx 6 row v (.ref 0::.int (.ofNat a)::.int (.ofNat b)::l)) (fun zo l=>ga (P:=fun l=>jj W (cI W) kx 6 row v (.ref 0::.int (.ofNat a)::.int (.ofNat b)::.int zo::l)) (fun e=>by
  obtain⟨t,h,rfl⟩:=gU e;obtain⟨_,hs,_⟩:=bV h;obtain⟨vs,rfl⟩:=(fM _ hs).tupE
  exact⟨.bool _,rY (ft (.int _) (ft (.int _) (ft (.int _) r8))),31,fun d=>uz W (dq a ha) (dq b hb) d (uy W (dq a ha) (dq b hb) h d)⟩) l) l) l) l) i
def Qw(W:WP):aX:=gk (oc kx 6 (Zi W)) (ul kx 6 (Zj W))
theorem HI{w:Wd}{W:WP}(hB:iE w W):ak w (Qw W):=ac (db (fun w' hB'=>qI hB') (qJ W) AT (HG W) hB) (fk (fun w' hB'=>qI hB') (qJ W) AT (HH W) hB)
theorem HJ(W:WP):ah (Qw W):=ae (da _ _ _) (fj _ _ _)
noncomputable def io:FI:=⟨519,st 131⟩
def nW:Cx:=(fS (st 131)).names
def vA(k:Nat):List Stmt:=(fB (st 131)).drop k
def WU:xpZ:=gV (vA 0)
def Qx:List Stmt:=gW (vA 0)
def Zk(r i:Nat):List Itm:=[.forI WU (.lst r) i Qx,.stm (vA 1)]
def Af(fr ow zo:Int)(zm:MV):Loc:=[(sO "store",.ref 0),(sO "from_tid",.int fr),(sO "owner_tid",.int ow),(sO "access",.int zo),(sO "through",zm)]
def Ag(fr ow zo:Int)(zm:MV)(a:Int):Loc:=[(sO "store",.ref 0),(sO "from_tid",.int fr),(sO "owner_tid",.int ow),(sO "access",.int zo),(sO "through",zm),(sO "at",.int a)]
def nK(sv:Int→Bool):List Int→Bool→Bool
 |[],z=>z
 |a::r,z=>b2 (sv a) true (nK sv r z)
section
variable(O:aX)(n d:Nat)(fr ow zo:Int)(zm:MV)(S:MS)(a:Int)
theorem WV{c:Bool}(h:O 512 d [.ref 0,.int a,.int ow,.int zo,zm] S=some (.bool c,S)):(aA O (n+6) d).tst nW (Ag fr ow zo zm a) S (aq Qx)=some (c,S):=by
 have e1:(aA O (n+6) d).tst nW (Ag fr ow zo zm a) S (aq Qx)=ca ((aA O (n+4) d).cal kx [.ref 0,.int a,.int ow,.int zo,zm] S):=by kernel_rfl
 rw [e1,bA (n:=n+3) (f:=kx) h];rfl
theorem WW(K:List Itm)(zl:Loc):(aA O (n+4) d).run nW (.stm (d9 Qx)::K) zl S=some (.bool true,S):=by kernel_rfl
theorem WX(K:List Itm)(zl:Loc):(aA O (n+4) d).run nW (.stm (dp Qx)::.stm []::K) zl S=(aA O (n+2) d).run nW K zl S:=by kernel_rfl
theorem Qy:(aA O (n+4) d).run nW [.stm (vA 1)] (Af fr ow zo zm) S=some (.bool (eqB zo 6),S):=by kernel_rfl
theorem Qz:(aA O (n+4) d).run nW [.stm (vA 1)] (Ag fr ow zo zm a) S=some (.bool (eqB zo 6),S):=by kernel_rfl
theorem RA:bL (aA O n d) nW (Af fr ow zo zm) S WU (.int a)=some (Ag fr ow zo zm a,S):=by kernel_rfl
theorem RB(a':Int):bL (aA O n d) nW (Ag fr ow zo zm a') S WU (.int a)=some (Ag fr ow zo zm a,S):=by kernel_rfl
theorem ym{r:Nat}{ats:List Int}{sv:Int→Bool}(hg:aH S.H r=some (.list (ats.map .int)))(hO:∀a ∈ ats,O 512 d [.ref 0,.int a,.int ow,.int zo,zm] S=some (.bool (sv a),S)):
  ∀(m i:Nat),i+m=ats.length→∀zl,(zl=Af fr ow zo zm∨∃a,zl=Ag fr ow zo zm a)→(aA O (n+4 * m+10) d).run nW (Zk r i) zl S=some (.bool (nK sv (ats.drop i) (eqB zo 6)),S):=by
 intro m
 induction m with
 |zero=>
  intro i hi zl hl
  have e:ats.drop i=[]:=List.drop_eq_nil_of_le (by lia)
  rw [e]
  refine (cR (n:=n+9) hg (by rw [aJ,ydZ,yjZ (by lia)];rfl)).trans ?_
  rcases hl with rfl|⟨a,rfl⟩
  ·exact Qy O (n+5) d fr ow zo zm S
  ·exact Qz O (n+5) d fr ow zo zm S a
 |succ m ih=>
  intro i hi zl hl
  have hil:i < ats.length:=by lia
  have ed:ats.drop i=ats[i]::ats.drop (i+1):=List.drop_eq_getElem_cons hil;rw [ed]
  show (aA O (n+4 * m+14) d).run nW (Zk r i) zl S=some (.bool (b2 (sv ats[i]) true (nK sv (ats.drop (i+1)) (eqB zo 6))),S)
  refine (bh (n:=n+4 * m+13) (zu:=Ag fr ow zo zm ats[i]) (st':=S) hg (v:=.int ats[i]) (by rw [aJ,ydZ,yiZ hil];rfl) (by rcases hl with rfl|⟨a,rfl⟩ <;>first|exact RA _ _ _ _ _ _ _ _ _|exact RB _ _ _ _ _ _ _ _ _ _)).trans ?_
  refine (aP (n:=n+4 * m+12) (tl:=[]) (by kernel_rfl) (WV O (n+4 * m+6) d fr ow zo zm S ats[i] (hO _ (List.getElem_mem hil)))).trans ?_
  cases sv ats[i]with
  |true=>exact WW O (n+4 * m+8) d S _ _
  |false=>
   refine (WX O (n+4 * m+8) d S _ _).trans ?_
   exact ih (i+1) (by lia) _ (.inr ⟨_,rfl⟩)
end
noncomputable def dk:List Stmt→xpZ
 | .For _ i _ _ _::_=>i
 |_=>.Constant .none 0 ⟨0,0,0,0⟩
noncomputable def RC:List Stmt→Pos
 | .For _ _ _ _ p::_=>p
 |_=>⟨0,0,0,0⟩
def vB(r:Option (MV×MS)):Option (Src×MS):=match r with
 |some (v,st)=>nj st v
 |none=>none
theorem eN{O:aX}{n d:Nat}{cx:Cx}{ss tl:List Stmt}{K:List Itm}{zl:Loc}{st zz:MS}{s:Src}(h:ss=.For (gV ss) (dk ss) (gW ss) [] (RC ss)::tl)(hs:bv (aA O n d) cx zl st (dk ss)=some (s,zz)):
  (aA O (n+1) d).run cx (.stm ss::K) zl st=(aA O n d).run cx (.forI (gV ss) s 0 (gW ss)::.stm tl::K) zl zz:=by
 generalize gV ss=x at h ⊢;generalize dk ss=it at h hs;generalize gW ss=b at h ⊢;generalize RC ss=p at h;subst h
 show pb (bv (aA O n d) cx zl st it) (fun s st=>(aA O n d).run cx (.forI x s 0 b::.stm tl::K) zl st)=_
 rw [hs];rfl
noncomputable def bN(W:WP)(t:Nat):List Nat:=match Nat.beq t 70 with
 |true=>[70,69,Nat.add 64 W.home]
 |false=>match Nat.beq t 69 with
  |true=>[69,Nat.add 64 W.home]
  |false=>[t]
theorem og(W:WP){t:Nat}(h:aQ t [64,65,66,67,68,69,70]=true):dL W t=some (((bN W t).map Int.ofNat).map .int):=
 ai [64,65,66,67,68,69,70] (fun t=>dL W t) (fun t=>some (((bN W t).map Int.ofNat).map .int)) (by kernel_rfl) t (cN h)
theorem ip(W:WP)(hW:W.home < 5){t:Nat}(h:aQ t [64,65,66,67,68,69,70]=true):∀x ∈ bN W t,aQ x [64,65,66,67,68,69,70]=true:=by
 have hh:aQ (Nat.add 64 W.home) [64,65,66,67,68,69,70]=true:=(show ∀k ∈ List.range 5,aQ (Nat.add 64 k) [64,65,66,67,68,69,70]=true by decide+kernel) _ (mgZ hW)
 unfold bN
 cases Nat.beq t 70 with
 |true=>exact fcZ ⟨rfl,fcZ ⟨rfl,fcZ ⟨hh,fun _ h=>nomatch h⟩⟩⟩
 |false=>
  cases Nat.beq t 69 with
  |true=>exact fcZ ⟨rfl,fcZ ⟨hh,fun _ h=>nomatch h⟩⟩
  |false=>exact fcZ ⟨h,fun _ h=>nomatch h⟩
def bk(W:WP):aX:=gk (aS W) (Qw W)
theorem qM{w:Wd}{W:WP}(hW:W.home < 5)(hB:iE w W):ak w (bk W):=ac (jl hW hB) (HI hB)
theorem qN(W:WP):ah (bk W):=ae (jm W) (HJ W)
def rd(W:WP)(fr ow:Nat)(zo:Int)(t:Option Nat):Bool:=nK (fun a=>qL W a.toNat ow zo t) ((bN W fr).map Int.ofNat) (eqB zo 6)
def iq(W:WP)(dyn:List MV)(fr:Nat):MS:=⟨aG W++[.list (((bN W fr).map Int.ofNat).map .int)],dyn,aD,aD⟩
theorem HK(O:aX)(n d:Nat)(fr ow zo:Int)(zm:MV)(S:MS):bv (aA O (n+4) d) nW (Af fr ow zo zm) S (dk (vA 0))=vB ((aA O (n+3) d).cal bt [.ref 0,.int fr] S):=by kernel_rfl
theorem WY(O:aX)(n d:Nat)(fr ow zo:Int)(zm:MV)(S:MS):(aA O (n+31) (d+1)).cal io [.ref 0,.int fr,.int ow,.int zo,zm] S=(match O 519 (d+1) [.ref 0,.int fr,.int ow,.int zo,zm] S with|some r=>some r|none=>aL S ((aA O (n+30) d).run nW [.stm (vA 0)] (Af fr ow zo zm) ⟨S.H,S.dyn,aD,S.bas⟩)):=by kernel_rfl
theorem HL(W:WP){fr ow:Nat}{zo:Int}{zm:MV}{t:Option Nat}{dyn:List MV}(d:Nat)(hf:aQ fr [64,65,66,67,68,69,70]=true)
  (hO:∀x ∈ bN W fr,bk W 512 d [.ref 0,.int (.ofNat x),.int (.ofNat ow),.int zo,zm] (iq W dyn fr)=some (.bool (qL W x ow zo t),iq W dyn fr)) (hd:Nat.ble 3 d=true):
  (aA (bk W) 30 d).run nW [.stm (vA 0)] (Af (.ofNat fr) (.ofNat ow) zo zm) ⟨aG W,dyn,aD,aD⟩=some (.bool (rd W fr ow zo t),iq W dyn fr):=by
 have hh:bk W 498 d [.ref 0,.int (.ofNat fr)] ⟨aG W,dyn,aD,aD⟩=some (.ref 26,iq W dyn fr):=by
  refine fm ?_
  show gd (Nat.ble 26 aD) (gd (Nat.ble 3 d) (ob (dL W fr) fun vs=>some (MV.ref (aG W).length,psh ⟨aG W,dyn,aD,aD⟩ (.list vs))))=_
  rw [gm,hd,og W hf,gT W];rfl
 have hs:bv (aA (bk W) 29 d) nW (Af (.ofNat fr) (.ofNat ow) zo zm) ⟨aG W,dyn,aD,aD⟩ (dk (vA 0))=some (.lst 26,iq W dyn fr):=by
  refine (HK (bk W) 25 d _ _ _ _ _).trans ?_;rw [bA (n:=27) (f:=bt) hh]
  show nj (iq W dyn fr) (.ref 26)=_
  kernel_rfl
 refine (eN (n:=29) (tl:=vA 1) (by kernel_rfl) hs).trans ?_
 have zr:(bN W fr).length≤3:=by
  unfold bN
  cases Nat.beq fr 70 with
  |true=>exact lrZ _
  |false=>cases Nat.beq fr 69 with
   |true=>exact (by decide:2≤3)
   |false=>exact (by decide:1≤3)
 have hg:aH (iq W dyn fr).H 26=some (.list (((bN W fr).map Int.ofNat).map .int)):=by kernel_rfl
 have:=ym (bk W) (19 - 4 * (bN W fr).length) d (.ofNat fr) (.ofNat ow) zo zm (iq W dyn fr) (sv:=fun a=>qL W a.toNat ow zo t) hg (fun a ha=>by
  obtain⟨x,hx,rfl⟩:=List.mem_map.mp ha
  exact hO x hx) (bN W fr).length 0 (by simp) _ (.inl rfl)
 rw [show 19 - 4 * (bN W fr).length+4 * (bN W fr).length+10=29 by lia]at this
 exact this
theorem yn(W:WP){x ow:Nat}{zo:Int}{zm:MV}{t:Option Nat}(hx:aQ x [64,65,66,67,68,69,70]=true)(hb:aQ ow [64,65,66,67,68,69,70]=true)(ht:gZ zm=some t){S:MS}(hS:S.bas=aD)(d:Nat):bk W 512 (d+6) [.ref 0,.int (.ofNat x),.int (.ofNat ow),.int zo,zm] S=some (.bool (qL W x ow zo t),S):=by
 unfold bk aS;have h0:Ab bt 3 (dM W) 512 (d+6) [.ref 0,.int (.ofNat x),.int (.ofNat ow),.int zo,zm] S=none:=rfl;rw [bo h0]
 refine fm (gY (f:=kx) (by rw [hS];exact gm) (dc 6 d) ?_)
 show ob (gd (aQ x [64,65,66,67,68,69,70]) (some x)) (fun a=>ob (gd (aQ ow [64,65,66,67,68,69,70]) (some ow)) fun b=>(gZ zm).map fun t=>MV.bool (qL W a b zo t))=_
 rw [hx,hb,ht];rfl
theorem yo(W:WP){x ow:Nat}{zo:Int}{vs:List MV}{t:Nat}(hx:aQ x [64,65,66,67,68,69,70]=true)(hb:aQ ow [64,65,66,67,68,69,70]=true)(ht:em (.tup vs)=some t){S:MS}(hS:S.bas=aD)(hd:S.dyn=[.tup vs])(d:Nat):bk W 512 (d+6) [.ref 0,.int (.ofNat x),.int (.ofNat ow),.int zo,.kd 0] S=some (.bool (qL W x ow zo (some t)),S):=by
 unfold bk aS;have h0:Ab bt 3 (dM W) 512 (d+6) [.ref 0,.int (.ofNat x),.int (.ofNat ow),.int zo,.kd 0] S=none:=rfl;rw [bo h0];unfold Qw;rw [bo (cT (.inr ?_))]
 ·refine il (f:=kx) (t:=0) (i:=[.ref 0,.int (.ofNat x),.int (.ofNat ow),.int zo]) (vs:=vs) (by rw [hS];exact gm) (dc 6 d) rfl (by rw [hd];rfl) ?_
  show ob (gd (aQ x [64,65,66,67,68,69,70]) (some x)) (fun a=>ob (gd (aQ ow [64,65,66,67,68,69,70]) (some ow)) fun b=>(em (.tup vs)).map fun t=>MV.bool (qL W a b zo (some t)))=_
  rw [hx,hb,ht];rfl
 ·show ob (gd (aQ x [64,65,66,67,68,69,70]) (some x)) (fun a=>ob (gd (aQ ow [64,65,66,67,68,69,70]) (some ow)) fun b=>(none:Option MV))=_
  rw [hx,hb];rfl
theorem RE(W:WP)(d:Nat)(args:List MV)(st:MS):bk W 519 d args st=none:=by
 unfold bk aS Qw;have h0:Ab bt 3 (dM W) 519 d args st=none:=rfl;rw [bo h0,bo (cT (.inl rfl))];rfl
theorem WZ(W:WP)(dyn:List MV)(fr:Nat)(b:Bool):aL ⟨aG W,dyn,aD,aD⟩ (some (.bool b,iq W dyn fr))=some (.bool b,⟨aG W,dyn,aD,aD⟩):=by kernel_rfl
theorem vC(W:WP){fr ow:Nat}{zo:Int}{zm:MV}{t:Option Nat}{dyn:List MV}(d:Nat)(hf:aQ fr [64,65,66,67,68,69,70]=true)
  (hO:∀x ∈ bN W fr,bk W 512 (d+6) [.ref 0,.int (.ofNat x),.int (.ofNat ow),.int zo,zm] (iq W dyn fr)=some (.bool (qL W x ow zo t),iq W dyn fr)):
  (aA (bk W) 31 (d+7)).cal io [.ref 0,.int (.ofNat fr),.int (.ofNat ow),.int zo,zm] ⟨aG W,dyn,aD,aD⟩=some (.bool (rd W fr ow zo t),⟨aG W,dyn,aD,aD⟩):=by
 have e:=WY (bk W) 0 (d+6) (.ofNat fr) (.ofNat ow) zo zm ⟨aG W,dyn,aD,aD⟩;rw [RE]at e;refine e.trans ?_
 have r:=HL W (d+6) hf hO (blZ (by lia))
 show aL _ ((aA (bk W) 30 (d+6)).run nW [.stm (vA 0)] (Af (.ofNat fr) (.ofNat ow) zo zm) ⟨aG W,dyn,aD,aD⟩)=_
 rw [r];exact WZ W dyn fr _
def Zl(W:WP)(args:List MV):Option MV:=aR 0 args fun l=>aN [64,65,66,67,68,69,70] l fun a l=>aN [64,65,66,67,68,69,70] l fun b l=>aI l fun zo l=>aV l fun zm l=>aE l ((gZ zm).map fun t=>.bool (rd W a b zo t))
def RF(W:WP)(i:List MV)(row:MV):Option MV:=aR 0 i fun l=>aN [64,65,66,67,68,69,70] l fun a l=>aN [64,65,66,67,68,69,70] l fun b l=>aI l fun zo l=>aE l ((em row).map fun t=>.bool (rd W a b zo (some t)))
theorem HM(W:WP)(hW:W.home < 5):∀args v,Zl W args=some v→eJ W (bk W) io 7 v args:=fun args v=>
 iw (fun l=>gA (P:=fun l=>eJ W (bk W) io 7 v (.ref 0::l)) (fun a ha l=>gA (P:=fun l=>eJ W (bk W) io 7 v (.ref 0::.int (.ofNat a)::l)) (fun b hb l=>wY (P:=fun l=>eJ W (bk W) io 7 v (.ref 0::.int (.ofNat a)::.int (.ofNat b)::l)) (fun zo l=>GA (P:=fun l=>eJ W (bk W) io 7 v (.ref 0::.int (.ofNat a)::.int (.ofNat b)::.int zo::l)) (fun zm l=>ga (P:=fun l=>eJ W (bk W) io 7 v (.ref 0::.int (.ofNat a)::.int (.ofNat b)::.int zo::zm::l)) (fun e=>by
  obtain⟨t,h,rfl⟩:=gU e;obtain⟨x,rfl⟩:=nJ h
  exact⟨.bool _,rY (ft (.int _) (ft (.int _) (ft (.int _) (ft (.int _) r8)))),31,fun d=>vC W d (dq a ha) fun x hx=>yn W (ip W hW (dq a ha) x hx) (dq b hb) h rfl d⟩) l) l) l) l) l) args
theorem HN(W:WP)(hW:W.home < 5):∀i row v,RF W i row=some v→jj W (bk W) io 7 row v i:=fun i row v=>
 iw (fun l=>gA (P:=fun l=>jj W (bk W) io 7 row v (.ref 0::l)) (fun a ha l=>gA (P:=fun l=>jj W (bk W) io 7 row v (.ref 0::.int (.ofNat a)::l)) (fun b hb l=>wY (P:=fun l=>jj W (bk W) io 7 row v (.ref 0::.int (.ofNat a)::.int (.ofNat b)::l)) (fun zo l=>ga (P:=fun l=>jj W (bk W) io 7 row v (.ref 0::.int (.ofNat a)::.int (.ofNat b)::.int zo::l)) (fun e=>by
  obtain⟨t,h,rfl⟩:=gU e;obtain⟨_,hs,_⟩:=bV h;obtain⟨vs,rfl⟩:=(fM _ hs).tupE
  exact⟨.bool _,rY (ft (.int _) (ft (.int _) (ft (.int _) r8))),31,fun d=>vC W d (dq a ha) fun x hx=>yo W (ip W hW (dq a ha) x hx) (dq b hb) h rfl rfl d⟩) l) l) l) l) i
def RG(W:WP):aX:=gk (oc io 7 (Zl W)) (ul io 7 (RF W))
theorem HO{w:Wd}{W:WP}(hW:W.home < 5)(hB:iE w W):ak w (RG W):=ac (db (fun w' hB'=>qM hW hB') (qN W) AU (HM W hW) hB) (fk (fun w' hB'=>qM hW hB') (qN W) AU (HN W hW) hB)
theorem HP(W:WP):ah (RG W):=ae (da _ _ _) (fj _ _ _)
noncomputable def lS:FI:=⟨477,st 125⟩
def gx(W:WP):aX:=gk bB (WO W)
theorem qO{w:Wd}{W:WP}(hW:W.home < 5)(hB:iE w W):ak w (gx W):=ac (bI w) (Go hW hB)
theorem qP(W:WP):ah (gx W):=ae bJ (Gp W)
def eO(W:WP)(f:Int):List Nat→Bool
 |[]=>true
 |t::r=>b2 (dN W f t) (eO W f r) false
noncomputable def ksU:List (Nat×List Nat×List Nat):=[(13,[],[13]),(9,[],[9]),(16,[64],[]),(17,[65],[]),(18,[66],[9]),(19,[67],[]),(21,[68],[]),(22,[69],[]),(23,[70],[])]
def kX(W:WP)(dyn ks:List MV):MS:=⟨aG W++[.list [],.dict (ks.map fun k=>(k,.int 1))],dyn,26,26⟩
def kC(W:WP)(f:Int)(dyn tl:List MV):List MV→List (Nat×MV)→MR
 |ks,[]=>some (.bool true,kX W dyn (ks++tl))
 |ks,(t,k)::r=>b2 (!(dN W f t)) (some (.bool false,kX W dyn (ks++[k]))) (kC W f dyn tl (ks++[k]) r)
noncomputable def kV(l:List Nat):List MV:=l.map fun i=>.int (.ofNat i)
theorem Ah(W:WP)(f:Int)(dyn tl:List MV):∀(ks:List MV) (l:List (Nat×MV)),aL ⟨aG W,dyn,aD,aD⟩ (kC W f dyn tl ks l)=some (.bool (eO W f (l.map (·.1))),⟨aG W,dyn,aD,aD⟩):=by
 have g:∀(b:Bool) (ks:List MV),aL ⟨aG W,dyn,aD,aD⟩ (some (.bool b,kX W dyn ks))=some (.bool b,⟨aG W,dyn,aD,aD⟩):=fun b ks=>by kernel_rfl
 intro ks l
 induction l generalizing ks with
 |nil=>exact g true _
 |cons p r ih=>
  show aL _ (b2 (!(dN W f p.1)) _ _)=some (.bool (b2 (dN W f p.1) (eO W f (r.map (·.1))) false),_)
  cases dN W f p.1
  ·exact g false _
  ·exact ih _
theorem RH(W:WP)(f:Int)(d:Nat):oe (fun p=>(aA (gx W) 120 (d+6)).cal lS [.ref 0,.int f,.int (.ofNat p.1)] ⟨aG W,[],aD,aD⟩=aL ⟨aG W,[],aD,aD⟩ (kC W f [] (kV p.2.2) [] (p.2.1.map fun t=>(t,.int (.ofNat p.1))))) ksU:=by
 unfold ksU
 repeat (first|exact trivial|refine⟨by kernel_rfl,?_⟩)
noncomputable def jS(i:Nat):MV:=.tup [.int 2,.int 66,.tup [.int (.ofNat i)]]
theorem RI(W:WP)(f:Int)(d:Nat):oe (fun p=>Nat.beq p.1 9=false→(aA (gx W) 120 (d+6)).cal lS [.ref 0,.int f,.kd 0] ⟨aG W,[jS p.1],aD,aD⟩=aL ⟨aG W,[jS p.1],aD,aD⟩ (kC W f [jS p.1] (kV p.2.2) [] ((66,.kd 0)::p.2.1.map fun t=>(t,.int (.ofNat p.1))))) ksU:=by
 unfold ksU
 repeat (first|exact trivial|refine⟨fun h=>by cases h,?_⟩|refine⟨fun _=>by kernel_rfl,?_⟩)
theorem lA(v:MV):∀ts:List Nat,(ts.map fun t=>(t,v)).map (·.1)=ts
 |[]=>rfl
 |t::r=>congrArg (t::·) (lA v r)
def oh:List (Nat×List Nat):=ksU.map fun p=>(p.1,p.2.1)
theorem qQ{k:Nat}{ts:List Nat}(h:dS k oh=some ts):∃us,(k,ts,us) ∈ ksU:=by
 obtain⟨p,h1,h2⟩:=List.mem_map.mp (d2 h);obtain⟨rfl,rfl⟩:=Prod.mk.inj h2;exact⟨p.2.2,h1⟩
def Zm(W:WP)(args:List MV):Option MV:=aR 0 args fun l=>aI l fun f l=>aB dn l fun k l=>aE l ((dS k oh).map fun ts=>.bool (eO W f ts))
theorem HQ(W:WP):∀args v,Zm W args=some v→eJ W (gx W) lS 6 v args:=fun args v=>
 iw (fun l=>wY (P:=fun l=>eJ W (gx W) lS 6 v (.ref 0::l)) (fun f l=>UF (P:=fun l=>eJ W (gx W) lS 6 v (.ref 0::.int f::l)) (fun k l=>ga (P:=fun l=>eJ W (gx W) lS 6 v (.ref 0::.int f::.int (.ofNat k)::l)) (fun e=>by
  obtain⟨ts,h1,rfl⟩:=gU e;obtain⟨us,hu⟩:=qQ h1
  refine⟨.bool _,rY (ft (.int _) (ft (.int _) r8)),120,fun d=>?_⟩
  have e:=(dO (RH W f d) hu).trans (Ah W f _ _ _ _);rw [lA]at e
  exact e) l) l) l) args
def HT(row:MV):Option (List Nat):=ob (e8 row) fun vs=>aN [2] vs fun _ l=>aN [66] l fun _ l=>aV l fun c l=>aE l (ob (e8 c) fun us=>aB dn us fun i l=>aE l (match Nat.beq i 9 with
 |true=>none
 |false=>(dS i oh).map fun ts=>66::ts))
theorem RJ{row:MV}:Al (HT row) fun ts=>∃i us,row=jS i∧Nat.beq i 9=false∧dS i oh=some us∧ts=66::us:=by
 refine .ob fun vs hv ts e=>?_
 obtain rfl:=di hv
 refine gA (P:=fun vs=>∃i us,MV.tup vs=jS i∧Nat.beq i 9=false∧dS i oh=some us∧ts=66::us) (fun n hn l=>gA (P:=fun l=>∃i us,MV.tup (.int (.ofNat n)::l)=jS i∧Nat.beq i 9=false∧dS i oh=some us∧ts=66::us) (fun m hm l=>GA (P:=fun l=>∃i us,MV.tup (.int (.ofNat n)::.int (.ofNat m)::l)=jS i∧Nat.beq i 9=false∧dS i oh=some us∧ts=66::us) (fun c l=>ga (P:=fun l=>∃i us,MV.tup (.int (.ofNat n)::.int (.ofNat m)::c::l)=jS i∧Nat.beq i 9=false∧dS i oh=some us∧ts=66::us) (fun e=>?_) l) l) l) vs e
 obtain⟨us,hc,e⟩:=bV e;obtain rfl:=di hc;obtain rfl:=msZ hn;obtain rfl:=msZ hm
 refine UF (P:=fun us=>∃i ws,MV.tup [.int 2,.int 66,.tup us]=jS i∧Nat.beq i 9=false∧dS i oh=some ws∧ts=66::ws) (fun i l=>ga (P:=fun l=>∃j ws,MV.tup [.int 2,.int 66,.tup (.int (.ofNat i)::l)]=jS j∧Nat.beq j 9=false∧dS j oh=some ws∧ts=66::ws) (fun e=>?_) l) us e
 cases hb:Nat.beq i 9 with
 |true=>
  rw [hb]at e;exact aF e
 |false=>
  rw [hb]at e;obtain⟨ws,h1,rfl⟩:=gU e;exact⟨i,ws,rfl,hb,h1,rfl⟩
theorem yp{row:MV}{ts:List Nat}(h:HT row=some ts)(W:WP)(f:Int)(d:Nat):(aA (gx W) 120 (d+6)).cal lS [.ref 0,.int f,.kd 0] ⟨aG W,[row],aD,aD⟩=some (.bool (eO W f ts),⟨aG W,[row],aD,aD⟩):=by
 obtain⟨i,us,rfl,h9,h1,rfl⟩:=RJ _ h;obtain⟨ws,hu⟩:=qQ h1;have e:=(dO (RI W f d) hu h9).trans (Ah W f _ _ _ _);rw [List.map_cons,lA]at e;exact e
def RM(W:WP)(i:List MV)(row:MV):Option MV:=aR 0 i fun l=>aI l fun f l=>aE l ((HT row).map fun ts=>.bool (eO W f ts))
theorem HU(W:WP):∀i row v,RM W i row=some v→jj W (gx W) lS 6 row v i:=fun i row v=>
 iw (fun l=>wY (P:=fun l=>jj W (gx W) lS 6 row v (.ref 0::l)) (fun f l=>ga (P:=fun l=>jj W (gx W) lS 6 row v (.ref 0::.int f::l)) (fun e=>by
  obtain⟨ts,h1,rfl⟩:=gU e
  exact⟨.bool _,rY (ft (.int _) r8),120,yp h1 W f⟩) l) l) i
def UG(W:WP):aX:=gk (oc lS 6 (Zm W)) (ul lS 6 (RM W))
theorem HV{w:Wd}{W:WP}(hW:W.home < 5)(hB:iE w W):ak w (UG W):=ac (db (fun w' hB'=>qO hW hB') (qP W) AQ (HQ W) hB) (fk (fun w' hB'=>qO hW hB') (qP W) AQ (HU W) hB)
theorem HW(W:WP):ah (UG W):=ae (da _ _ _) (fj _ _ _)
section
variable{l:LS}{st:MS}{s2:Shared}{k:Nat}
theorem yr(a b:Nat):mn a b≤a∧mn a b≤b:=by
 unfold mn
 cases h:Nat.blt a b with
 |true=>exact⟨lrZ _,Nat.le_of_lt (blt_iff.mp h)⟩
 |false=>exact⟨Nat.le_of_not_lt (fun g=>nomatch (blt_iff.mpr g).symm.trans h),lrZ _⟩
theorem Now.unview2(n:Now w h₀ L m X l st s)(hi2:st.H[2]? =some .ktb)(V:IsView w (ix w (k+1) l st) (k+1) l st [] [])(n2:Now (ix w (k+1) l st) h₀ L m (X++l.RL.drop (k+1)) l2 st2 s2)(x:Ext ⟨l.RL.take (k+1),l.im,[]⟩ l2)(hk9:9≤k)(hb:k≤st2.bas)
  {o o':MO} (ho:st.H[k]? =some o) (hp:o.plain=true) (ho':st2.H[k]? =some o') (hp':o'.plain=true) (hsc:AY (k+1) o') (hpl:JV o'):
  Now w h₀ L m X ⟨l2.RL.take (k+1)++l.RL.drop (k+1),l2.im,l.ks⟩ ⟨bO o' st.H k,st.dyn,mn k st.low,mn k st.bas⟩ s2∧(⟨l2.RL.take (k+1)++l.RL.drop (k+1),l2.im,l.ks⟩:LS).as=l.as:=by
 obtain⟨⟨E0,D0,W0,O0,⟨t0,_⟩,_⟩,_⟩:=n.H.tab 2 hi2;obtain⟨x0,_,_,hla⟩:=n.backs V x;have hkl:k < st.H.length:=(ybZ.mp ho).1
 have hH:∀i,i≠k→(bO o' st.H k)[i]? =st.H[i]? :=fun i hi=>by rw [aj,ypZ (Ne.symm hi)]
 have hHk:(bO o' st.H k)[k]? =some o':=by rw [aj,List.getElem?_set_self hkl]
 obtain⟨m1,m2⟩:=yr k st.bas
 have z:=n.back (H':=bO o' st.H k) (lo:=mn k st.low) (ba:=mn k st.bas) V n2 x (by rw [aj,List.length_set]) (fun i o1 p hi h1 h3=>?_) (fun i hi=>hH i (Nat.ne_of_gt hi)) (fun i h=>?_) (fun i hi E D W O t=>t0.open1 t) m2
  fun i hi=>⟨hH i (Nat.ne_of_lt (llZ hi m1)),fun _=>llZ (llZ hi m1) hb⟩
 ·exact⟨z.1,z.2.1⟩
 ·by_cases hik:i=k
  ·obtain rfl:=hik;obtain rfl:o'=o1:=oiZ (hHk.symm.trans h1);obtain⟨q,hq,hO⟩:=n2.H.obj.get ho';obtain rfl:p=q:=oiZ (h3.symm.trans hq)
   exact ((V.params ▸hO.shrink x0 (hla.symm ▸hsc):OR w.params _ _ _ _ _).reks hpl).mono (List.take_prefix _ l.as) prZ fun _ h=>h
  ·exact n.back_o V n2 x hi (llZ (Nat.lt_of_le_of_ne (Nat.le_of_lt_succ hi) hik) hb) ((hH i hik).symm.trans h1) h3
 ·have hik:i≠k:=fun e=>by
   subst e;obtain rfl:o'=MO.ktb:=oiZ (hHk.symm.trans h);cases hp'
  have h':=(hH i hik).symm.trans h
  have hi2:i=2:=by obtain⟨⟨_,_,_,_,⟨_,h⟩,_⟩,_⟩:=n.H.tab i h';exact h
  exact⟨h',fun hi=>llZ (Nat.lt_of_le_of_ne (Nat.le_of_lt_succ hi) hik) hb,fun j _ hj=>hH _ (by lia)⟩
end
section
variable{l:LS}{st:MS}{k:Nat}{b2:Nat}{H2 dyn2:List _}
theorem HX(C:eC (ix w (k+1) l st) d cal)(S:Sit w F)(hA:A.frames=some (F.env::F.outer))(hh:A.handled=none)(R:ge A d)(hf:dT w.params f)(n:Now w F.h₀ F.L m X l st s)(hi2:st.H[2]? =some .ktb)(V:IsView w (ix w (k+1) l st) (k+1) l st [] [])
  (e:cal f args' ⟨b9 (k+1) (k+1) st.H,[],aD,aD⟩=some (v,⟨H2,dyn2,b1,b2⟩)) (hk9:9≤k) (hb:k≤b2) {o o':MO} (ho:st.H[k]? =some o) (hp:o.plain=true) (ho':H2[k]? =some o') (hp':o'.plain=true) (hsc:AY (k+1) o') (hpl:JV o')
  (ha:(⟨l.RL.take (k+1),l.im,[]⟩:LS).VRs args' zq) (hv:Pz v) {Q:Result→Shared→Prop}
  (hQ:∀v' s' l',Now w F.h₀ F.L m X l' ⟨bO o' st.H k,st.dyn,mn k st.low,mn k st.bas⟩ s'→Ext l l'→Same s s'→l'.VR v v'→Q (.ok (.ret v')) s'):codeAny (M w) A (.call (.ref f.ad) ⟨zq,[]⟩) Q s:=by
 have z:=C F (S.to V.ww) A hA hh R m (X++l.RL.drop (k+1)) _ _ s f (V.params ▸hf) args' zq v _ e (n.view V) ha Q fun v' s' l' n' x y r=>by
  obtain⟨n3,e3⟩:=n.unview2 hi2 V n' x hk9 hb ho hp ho' hp' hsc hpl
  exact hQ v' s' _ n3 ⟨by rw [e3];exact prZ,prZ,x.im⟩ y (VR.pz r hv)
 have eM:M (ix w (k+1) l st)=M w:=by show model pg (ix w (k+1) l st).w=model pg w.w;rw [V.ww]
 rw [eM]at z;exact z
end
def eq(W:WP)(own:Int):List MO:=base W++[fs own]
theorem HY(W:WP):gv 124 (lQ W)=lQ W:=by
 obtain⟨_,_,_,_,_,_,_,_,_,_,_,_,_,_,_,_,_,_,_,g⟩:=W
 match g with
 |0=>rfl
 |1=>rfl
 |2=>rfl
 |3=>rfl
 |4=>rfl
 |g+5=>rfl
theorem vD(W:WP)(own:Int):(eq W own).map (cu 124)=(eq W own).take 121++[.list [gv 124 (lQ W)],.inst 866 123,fs own]:=by kernel_rfl
theorem yt(W:WP)(own:Int):(eq W own).map (cu 124)=eq W own:=by rw [vD,HY];kernel_rfl
theorem HZ(W:WP)(own:Int):JX 124 (eq W own)=true:=by kernel_rfl
def sB(w:Wd)(W:WP):Prop:=(w.B.map (·.1)).take 123=base W
theorem vE(W:WP):(base W).length=123:=by kernel_rfl
theorem RN{w:Wd}{W:WP}(h:sB w W):iE w W:=⟨(base W).take 26,by rw [←h,List.take_take];rfl,by kernel_rfl,ui W,gS (yV W)⟩
theorem yu{w:Wd}{W:WP}{own:Int}(h:w.B.map (·.1)=eq W own):sB w W:=by unfold sB;rw [h];kernel_rfl
theorem H0(own:Int):AY 124 (fs own):=by
 intro p hp;simp only [yhZ,ygZ,or_false]at hp
 rcases hp with rfl|rfl|rfl|rfl|rfl|rfl|rfl|rfl|rfl|rfl|rfl|rfl|rfl <;>first|exact .anyv|exact .int _|exact .ref (by decide)
theorem H3(own:Int):JV (fs own):=by
 intro p hp;simp only [yhZ,ygZ,or_false]at hp
 rcases hp with rfl|rfl|rfl|rfl|rfl|rfl|rfl|rfl|rfl|rfl|rfl|rfl|rfl <;>first|exact .anyv|exact .int _|exact .ref _
def re(f:FI)(dm:Nat)(zv:List MV→Option (MV×(Int→Int))):aX:=fun a d args st=>
 open Classical in if h:a=f.ad∧123≤st.bas∧dm≤d∧∃own,st.H[123]? =some (fs own) then (zv args).map fun p=>(p.1,⟨bO (fs (p.2 h.2.2.2.choose)) st.H 123,st.dyn,mn 123 st.low,mn 123 st.bas⟩) else none
theorem yv{a b:Int}(h:fs a=fs b):a=b:=oiZ (show some a=some b from congrArg (fun o=>ob (PU o) fun q=>ob (c7 (sO "owner") q.2) b8) h)
theorem oi{f:FI}{dm:Nat}{zv:List MV→Option (MV×(Int→Int))}{d:Nat}{args:List MV}{st:MS}{p:MV×(Int→Int)}{own:Int}(hb:123≤st.bas)(hd:dm≤d)(ho:st.H[123]? =some (fs own))(h:zv args=some p):
  re f dm zv f.ad d args st=some (p.1,⟨bO (fs (p.2 own)) st.H 123,st.dyn,mn 123 st.low,mn 123 st.bas⟩):=by
 have q:f.ad=f.ad∧123≤st.bas∧dm≤d∧∃own,st.H[123]? =some (fs own):=⟨rfl,hb,hd,own,ho⟩;unfold re;rw [dif_pos q,h];have:q.2.2.2.choose=own:=yv (oiZ (q.2.2.2.choose_spec.symm.trans ho));simp only [Option.map_some,this]
theorem H7{f:FI}{dm:Nat}{zv:List MV→Option (MV×(Int→Int))}{a d:Nat}{args:List MV}{st:MS}(h:a≠f.ad):re f dm zv a d args st=none:=by
 unfold re
 rw [dif_neg fun q=>h q.1]
theorem qR{W:WP}{O':aX}{f:FI}{dm:Nat}{zv:List MV→Option (MV×(Int→Int))}(hO:∀w',sB w' W→ak w' O')(hP:ah O')(hf:∀P,dT P f)
  (hs:∀args p,zv args=some p→Pz p.1∧ci 124 args=args∧∃N,∀own d,∃H2 dyn2 b1 b2,(aA O' N (d+dm)).cal f args ⟨eq W own,[],aD,aD⟩=some (p.1,⟨H2,dyn2,b1,b2⟩)∧123≤b2∧H2[123]? =some (fs (p.2 own))) {w:Wd} (hB:sB w W):ak w (re f dm zv):=by
 intro d F S A hA hh R m X l st s f' hf' args zq v st' e n hv Q hQ
 replace e:re f dm zv f'.ad d args st=some (v,st'):=e
 by_cases q:f'.ad=f.ad∧123≤st.bas∧dm≤d∧∃own,st.H[123]? =some (fs own)
 ·obtain⟨q1,q2,q3,own,q4⟩:=q
  cases hsp:zv args with
  |none=>
   unfold re at e;rw [dif_pos ⟨q1,q2,q3,own,q4⟩,hsp]at e;cases e
  |some p=>
   rw [q1,oi q2 q3 q4 hsp]at e;cases e;rw [q1];obtain⟨p1,p2,N,p3⟩:=hs args p hsp
   obtain⟨d,rfl⟩:∃d',d=d'+dm:=⟨d - dm,by lia⟩
   obtain⟨H2,dyn2,b1,b2,p4,p5,p6⟩:=p3 own d;obtain⟨h1,h2⟩:=n.base_take hB (vE W) q2;have hl:124≤st.H.length:=(ybZ.mp q4).1
   have et:st.H.take 124=eq W own:=by
    rw [show 124=123+1 from rfl,List.take_add_one,h1,q4];rfl
   have hc:b9 124 124 st.H=eq W own:=by rw [cj,et,yt]
   have hi2:st.H[2]? =some .ktb:=by
    have a:(st.H.take 124)[2]? =some .ktb:=by rw [et];kernel_rfl
    rw [ycZ (by lia)]at a
    exact a
   have V:IsView w (ix w 124 l st) 124 l st [] []:=n.mkView (by lia) hi2 hl fun i o hi ho=>gS (HZ W own) i o (by rw [←et,ycZ hi];exact ho)
   refine HX (k:=123) ((kQ (hO _ (yu (own:=own) ?_)) hP N).C (d+dm)) S hA hh R (hf _) n hi2 V (by rw [hc];exact p4) (by lia) p5 q4 rfl p6 rfl (H0 _) (H3 _) ?_ p1 hQ
   ·show ((b9 124 124 st.H).zip (l.RL.take 124)).map (·.1)=_
    rw [List.map_fst_zip,hc];rw [dH hl,yeZ,n.H.len']
    lia
   ·have ea:(⟨l.RL.take 124,l.im,[]⟩:LS).as=l.as.take 124:=by show (l.RL.take 124).map (·.1)=(l.RL.map (·.1)).take 124;rw [yqZ]
    show VRs (⟨l.RL.take 124,l.im,[]⟩:LS).as [] l.im args zq
    rw [ea];have z:=VRs.cut (k:=124) (ks':=[]) hv;rw [p2]at z;exact z
 ·unfold re at e;rw [dif_neg q]at e;cases e
theorem qS(f:FI)(dm:Nat)(zv:List MV→Option (MV×(Int→Int))):ah (re f dm zv):=by
 intro a d args st v st' e
 by_cases q:a=f.ad∧123≤st.bas∧dm≤d∧∃own,st.H[123]? =some (fs own)
 ·unfold re at e;rw [dif_pos q]at e;obtain⟨p,h1,h2⟩:=ysZ.mp e;cases h2
  refine⟨iB 123 st.low,?_,fun j h1 h2=>?_,fun j h1 h2=>?_⟩
  ·show st.H.length≤(bO _ st.H 123).length
   rw [aj];simp
  ·show (bO _ st.H 123)[j]? =st.H[j]?
   have h1':j < mn 123 st.low:=h1;have:=d6 123 st.low;rw [aj,ypZ]
   lia
  ·show j < mn 123 st.bas
   have h2':j < mn 123 st.low:=h2;have:=d6 123 st.low;unfold mn;split
   ·lia
   ·exact h1
 ·unfold re at e;rw [dif_neg q]at e;cases e
noncomputable def u1(W:WP):List Nat:=match W.b1 with|true=>[1,0]|false=>[1]
def u2(W:WP):List Nat:=match W.b2 with|true=>2::u1 W|false=>[2,0]
def aO(W:WP)(i:Nat):List Nat:=match i with
 |0=>[0]
 |1=>u1 W
 |2=>u2 W
 |3=>3::u2 W
 |4=>[4]
 |5=>match W.b5 with|true=>[5,0]|false=>[5]
 |_=>6::u1 W
noncomputable def af(W:WP)(i:Nat):List Nat:=match i with
 |5=>[5,W.home]
 |6=>[6,5,W.home]
 |i=>[i]
noncomputable def iL(l:List Nat):List MV:=l.map fun n=>.int (.ofNat n)
def g6(k:Nat)(f:Nat→List Nat):List MO:=[.list [.ref (Nat.add k 1),.ref (Nat.add k 2),.ref (Nat.add k 3),.ref (Nat.add k 4),.ref (Nat.add k 5),.ref (Nat.add k 6),.ref (Nat.add k 7)],
 .list (iL (f 0)),.list (iL (f 1)),.list (iL (f 2)),.list (iL (f 3)),.list (iL (f 4)),.list (iL (f 5)),.list (iL (f 6))]
noncomputable def sC:FI:=⟨961,st 181⟩
def A1(W:WP)(own:Int)(dyn:List MV):MS:=⟨eq W own,dyn,aD,aD⟩
def A2(W:WP)(own:Int)(dyn:List MV)(f:Nat→List Nat):MS:=⟨eq W own++g6 124 f,dyn,aD,aD⟩
def A3(W:WP)(own:Int)(dyn:List MV)(f g:Nat→List Nat):MS:=⟨eq W own++g6 124 f++g6 132 g,dyn,aD,aD⟩
theorem H8(O:aX)(hO:∀d a s,O 961 d a s=none)(S:MS)(r:Nat)(n d:Nat):(aA O (n+150) (d+1)).cal sC [.ref r] S=aL S ((aA O (n+149) d).run (fS (st 181)).names [.stm (fB (st 181))] [(sO "rows",.ref r)] ⟨S.H,S.dyn,aD,S.bas⟩):=by
 have e:(aA O (n+150) (d+1)).cal sC [.ref r] S=match O 961 (d+1) [.ref r] S with
  |some r=>some r
  |none=>aL S ((aA O (n+149) d).run (fS (st 181)).names [.stm (fB (st 181))] [(sO "rows",.ref r)] ⟨S.H,S.dyn,aD,S.bas⟩):=by kernel_rfl
 rw [e,hO]
theorem vF(O:aX)(hO:∀d a s,O 961 d a s=none)(W:WP)(own:Int)(dyn:List MV)(n d:Nat):(aA O (n+150) (d+1)).cal sC [.ref 75] (A1 W own dyn)=some (.ref 124,A2 W own dyn (aO W)):=by
 refine (H8 O hO _ _ n d).trans ?_;obtain⟨_,b1,b2,b5⟩:=W
 cases b1 <;>cases b2 <;>cases b5 <;>kernel_rfl
theorem W2(O:aX)(W:WP)(own:Int)(dyn:List MV)(f:Nat→List Nat)(n d:Nat):∀home,home < 5→aL (A2 {W with home:=home} own dyn f) ((aA O (n+149) d).run (fS (st 181)).names [.stm (fB (st 181))] [(sO "rows",.ref 76)] ⟨(A2 {W with home:=home} own dyn f).H,(A2 {W with home:=home} own dyn f).dyn,aD,(A2 {W with home:=home} own dyn f).bas⟩)=some (.ref 132,A3 {W with home:=home} own dyn f (af {W with home:=home})):=
 c5 (by kernel_rfl) (by kernel_rfl) (by kernel_rfl) (by kernel_rfl) (by kernel_rfl)
theorem H9(O:aX)(hO:∀d a s,O 961 d a s=none)(W:WP)(hW:W.home < 5)(own:Int)(dyn:List MV)(f:Nat→List Nat)(n d:Nat):(aA O (n+150) (d+1)).cal sC [.ref 76] (A2 W own dyn f)=some (.ref 132,A3 W own dyn f (af W)):=
 (H8 O hO _ _ n d).trans (W2 O W own dyn f n d W.home hW)
structure Seen(W:WP)(f g:Nat→List Nat)(S:MS):Prop where
 a:aH S.H 73=some (.list (nB W))
 k:aH S.H 74=some (.list (ik W))
 u:aH S.H 124=some (.list [.ref 125,.ref 126,.ref 127,.ref 128,.ref 129,.ref 130,.ref 131])
 l:aH S.H 132=some (.list [.ref 133,.ref 134,.ref 135,.ref 136,.ref 137,.ref 138,.ref 139])
 us:∀i,i < 7→aH S.H (125+i)=some (.list (iL (f i)))
 ls:∀i,i < 7→aH S.H (133+i)=some (.list (iL (g i)))
variable{l:LS}{k:Nat}
theorem vG{k i:Nat}(h:i < 7):aH [MV.ref (k+1),.ref (k+2),.ref (k+3),.ref (k+4),.ref (k+5),.ref (k+6),.ref (k+7)] i=some (.ref (k+1+i)):=q7 (F:=aH [MV.ref (k+1),.ref (k+2),.ref (k+3),.ref (k+4),.ref (k+5),.ref (k+6),.ref (k+7)]) (G:=fun i=>some (.ref (k+1+i))) rfl h
theorem W3(W:WP){i:Nat}(h:i < 7):aH (nB W) i=some (.int (aU W i)):=q7 (F:=aH (nB W)) (G:=fun i=>some (.int (aU W i))) rfl h
theorem RO(W:WP){i:Nat}(h:i < 7):aH (ik W) i=some (.bool (fC W i)):=q7 (F:=aH (ik W)) (G:=fun i=>some (.bool (fC W i))) rfl h
theorem g7{S:MS}{r:Nat}{vs:List MV}{i:Nat}{v:MV}(h:aH S.H r=some (.list vs))(hv:aH vs i=some v):fT S (.ref r) (.int (.ofNat i))=some v:=by
 show ob (aH S.H r) _=_
 rw [h];exact hv
theorem Seen.asm{W:WP}{f g:Nat→List Nat}{S:MS}(h:Seen W f g S){i:Nat}(hi:i < 7):fT S (.ref 73) (.int (.ofNat i))=some (.int (aU W i)):=g7 h.a (W3 W hi)
theorem Seen.kept{W:WP}{f g:Nat→List Nat}{S:MS}(h:Seen W f g S){i:Nat}(hi:i < 7):fT S (.ref 74) (.int (.ofNat i))=some (.bool (fC W i)):=g7 h.k (RO W hi)
theorem Seen.up{W:WP}{f g:Nat→List Nat}{S:MS}(h:Seen W f g S){i:Nat}(hi:i < 7):fT S (.ref 124) (.int (.ofNat i))=some (.ref (125+i)):=g7 h.u (vG (k:=124) hi)
theorem Seen.ln{W:WP}{f g:Nat→List Nat}{S:MS}(h:Seen W f g S){i:Nat}(hi:i < 7):fT S (.ref 132) (.int (.ofNat i))=some (.ref (133+i)):=g7 h.l (vG (k:=132) hi)
theorem cU{α:Type}{l r:List α}{i:Nat}{x:α}(h:aH l i=some x):aH (l++r) i=some x:=by
 rw [aJ]at h ⊢;rw [yaZ (ybZ.mp h).1];exact h
theorem Seen.psh{W:WP}{f g:Nat→List Nat}{S:MS}(h:Seen W f g S)(o:MO):Seen W f g (psh S o):=
 ⟨cU h.a,cU h.k,cU h.u,cU h.l,fun i hi=>cU (h.us i hi),fun i hi=>cU (h.ls i hi)⟩
def jn(S:MS)(r:Nat)(i:Int):MR:=(fT S (.ref r) (.int i)).map fun v=>(v,S)
theorem cV{S:MS}{r:Nat}{i:Int}{v:MV}(h:fT S (.ref r) (.int i)=some v):jn S r i=some (v,S):=by unfold jn;rw [h];rfl
def J0(op:CmpOp)(r:MR)(q:MS→MR):Option (Bool×MS):=match r with
 |some (a,st)=>match q st with
  |some (b,st)=>(ck st op a b).map fun c=>(c,st)
  |none=>none
 |none=>none
noncomputable def wE:FI:=⟨982,st 184⟩
def nL:Cx:=(fS (st 184)).names
def wF(k:Nat):List Stmt:=(fB (st 184)).drop k
def W4:xpZ:=gV (wF 0)
def Ai:List Stmt:=gW (wF 0)
def Zn(r i:Nat):List Itm:=[.forI W4 (.lst r) i Ai,.stm (wF 1)]
def Aj(a p:Nat):Loc:=[(sO "lines",.ref 132),(sO "asms",.ref 73),(sO "kept",.ref 74),(sO "asker",.int (.ofNat a)),(sO "place",.int (.ofNat p))]
def yw(a p t:Nat):Loc:=[(sO "lines",.ref 132),(sO "asms",.ref 73),(sO "kept",.ref 74),(sO "asker",.int (.ofNat a)),(sO "place",.int (.ofNat p)),(sO "at",.int (.ofNat t))]
def cH(W:WP)(a:Nat):List Nat→Bool
 |[]=>true
 |t::r=>b2 (an (fC W t) (!(eqB (aU W t) (aU W a)))) false (cH W a r)
section
variable(O:aX)(n d:Nat)(S:MS)(a p t:Nat)
theorem RP:(aA O (n+5) d).tst nL (yw a p t) S (aW (cY (aq Ai)) 0)=ca (jn S 74 (.ofNat t)):=by kernel_rfl
theorem RQ:(aA O (n+5) d).tst nL (yw a p t) S (aW (cY (aq Ai)) 1)=J0 .NotEq (jn S 73 (.ofNat t)) (fun s=>jn s 73 (.ofNat a)):=by kernel_rfl
theorem RR:(aA O (n+6) d).tst nL (yw a p t) S (aq Ai)=cF (aA O (n+5) d) nL (yw a p t) .And S [aW (cY (aq Ai)) 0,aW (cY (aq Ai)) 1]:=by kernel_rfl
theorem W5(K:List Itm)(zl:Loc):(aA O (n+4) d).run nL (.stm (d9 Ai)::K) zl S=some (.bool false,S):=by kernel_rfl
theorem W6(K:List Itm)(zl:Loc):(aA O (n+4) d).run nL (.stm (dp Ai)::.stm []::K) zl S=(aA O (n+2) d).run nL K zl S:=by kernel_rfl
theorem W7(zl:Loc):(aA O (n+4) d).run nL [.stm (wF 1)] zl S=some (.bool true,S):=by kernel_rfl
theorem RS:bL (aA O n d) nL (Aj a p) S W4 (.int (.ofNat t))=some (yw a p t,S):=by kernel_rfl
theorem RT(t':Nat):bL (aA O n d) nL (yw a p t') S W4 (.int (.ofNat t))=some (yw a p t,S):=by kernel_rfl
theorem W8(hO:∀d x s,O 982 d x s=none):(aA O (n+41) (d+1)).cal wE [.ref 132,.ref 73,.ref 74,.int (.ofNat a),.int (.ofNat p)] S=aL S ((aA O (n+40) d).run nL [.stm (wF 0)] (Aj a p) ⟨S.H,S.dyn,aD,S.bas⟩):=by
 have e:(aA O (n+41) (d+1)).cal wE [.ref 132,.ref 73,.ref 74,.int (.ofNat a),.int (.ofNat p)] S=match O 982 (d+1) [.ref 132,.ref 73,.ref 74,.int (.ofNat a),.int (.ofNat p)] S with
  |some r=>some r
  |none=>aL S ((aA O (n+40) d).run nL [.stm (wF 0)] (Aj a p) ⟨S.H,S.dyn,aD,S.bas⟩):=by kernel_rfl
 rw [e,hO]
theorem W9:bv (aA O (n+4) d) nL (Aj a p) S (dk (wF 0))=vB (jn S 132 (.ofNat p)):=by kernel_rfl
variable{O n d S a p t}{W:WP}{f g:Nat→List Nat}
theorem yx(hS:Seen W f g S)(ha:a < 7){r:Nat}{l:List Nat}(hg:aH S.H r=some (.list (iL l)))(hl:∀t ∈ l,t < 7):
  ∀(m i:Nat),i+m=l.length→∀zl,(zl=Aj a p∨∃t,zl=yw a p t)→(aA O (n+4 * m+10) d).run nL (Zn r i) zl S=some (.bool (cH W a (l.drop i)),S):=by
 intro m
 induction m with
 |zero=>
  intro i hi zl hl
  have e:l.drop i=[]:=List.drop_eq_nil_of_le (by lia)
  rw [e]
  refine (cR (n:=n+9) hg (by unfold iL;rw [aJ,ydZ,yjZ (by lia)];rfl)).trans ?_
  exact W7 O (n+5) d S zl
 |succ m ih=>
  intro i hi zl hloc
  have hil:i < l.length:=by lia
  have ed:l.drop i=l[i]::l.drop (i+1):=List.drop_eq_getElem_cons hil;rw [ed];have ht:=hl _ (List.getElem_mem hil)
  refine (bh (n:=n+4 * m+13) (zu:=yw a p l[i]) (st':=S) hg (v:=.int (.ofNat l[i])) (by unfold iL;rw [aJ,ydZ,yiZ hil];rfl) (by rcases hloc with rfl|⟨t,rfl⟩ <;>first|exact RS _ _ _ _ _ _ _|exact RT _ _ _ _ _ _ _ _)).trans ?_
  refine (aP (n:=n+4 * m+12) (b:=an (fC W l[i]) (!(eqB (aU W l[i]) (aU W a)))) (zz:=S) (tl:=[]) (by kernel_rfl) ?_).trans ?_
  ·refine (RR O (n+4 * m+6) d S a p l[i]).trans (Q0 (zz:=S) ?_ (fun _=>?_) rfl)
   ·refine (RP O (n+4 * m+6) d S a p l[i]).trans ?_;rw [cV (hS.kept ht)];rfl
   ·refine (RQ O (n+4 * m+6) d S a p l[i]).trans ?_;rw [cV (hS.asm ht)]
    show (match jn S 73 (.ofNat a)with|some (b,st)=>(ck st .NotEq (.int (aU W l[i])) b).map fun c=>(c,st)|none=>none)=_
    rw [cV (hS.asm ha)];rfl
  ·unfold cH
   cases an (fC W l[i]) (!(eqB (aU W l[i]) (aU W a)))with
   |true=>exact W5 O (n+4 * m+8) d S _ _
   |false=>
    refine (W6 O (n+4 * m+8) d S _ _).trans ?_
    exact ih (i+1) (by lia) _ (.inr ⟨_,rfl⟩)
theorem cW{v:MV}{H:List MO}{bas:Nat}(hn:bc 40 v=true)(hl:S.H.length≤aD):aL S (some (v,⟨H,S.dyn,aD,bas⟩))=some (v,S):=by
 show some (dh S v ⟨H,S.dyn,aD,bas⟩)=_
 unfold dh Fp;rw [Nat.ble_eq_true_of_le hl,hn]
theorem vH(hO:∀d x s,O 982 d x s=none)(hS:Seen W f g S)(hs:S.H.length≤aD)(ha:a < 7)(hp:p < 7)(hg:∀t ∈ g p,t < 7)(hn:(g p).length≤3):(aA O (n+41) (d+1)).cal wE [.ref 132,.ref 73,.ref 74,.int (.ofNat a),.int (.ofNat p)] S=some (.bool (cH W a (g p)),S):=by
 refine (W8 O n d S a p hO).trans ?_;have hS':Seen W f g ⟨S.H,S.dyn,aD,S.bas⟩:=⟨hS.a,hS.k,hS.u,hS.l,hS.us,hS.ls⟩
 have hsrc:bv (aA O (n+39) d) nL (Aj a p) ⟨S.H,S.dyn,aD,S.bas⟩ (dk (wF 0))=some (.lst (133+p),⟨S.H,S.dyn,aD,S.bas⟩):=by
  refine (W9 O (n+35) d _ a p).trans ?_;rw [cV (hS'.ln hp)]
  show ob (jV ⟨S.H,S.dyn,aD,S.bas⟩ (133+p)) (fun _=>some (Src.lst (133+p),(⟨S.H,S.dyn,aD,S.bas⟩:MS)))=_
  rw [kj (hS'.ls p hp)];rfl
 have r:=(eN (n:=n+39) (K:=[]) (tl:=wF 1) (by kernel_rfl) hsrc).trans ((congrArg (fun k=>(aA O k d).run nL (Zn (133+p) 0) (Aj a p) ⟨S.H,S.dyn,aD,S.bas⟩) (show n+39=(n+29 - 4 * (g p).length)+4 * (g p).length+10 by lia)).trans
  (yx (n:=n+29 - 4 * (g p).length) hS' ha (hS'.ls p hp) hg (g p).length 0 (by simp) _ (.inl rfl)))
 have r2:(aA O (n+40) d).run nL [.stm (wF 0)] (Aj a p) ⟨S.H,S.dyn,aD,S.bas⟩=some (.bool (cH W a (g p)),⟨S.H,S.dyn,aD,S.bas⟩):=r;rw [r2];exact cW rfl hs
end
def RU(op:CmpOp)(r:MR)(q:MS→MR):MR:=match r with
 |some (a,st)=>match q st with
  |some (b,st)=>(ck st op a b).map fun c=>(.bool c,st)
  |none=>none
 |none=>none
def lB(a:Nat):List Nat→Bool
 |[]=>false
 |x::r=>b2 (eqB (.ofNat x) (.ofNat a)) true (lB a r)
theorem vI(a:Nat):∀l,inl (.int (.ofNat a)) (iL l)=some (lB a l)
 |[]=>rfl
 |x::r=>by
  show ob (inl (.int (.ofNat a)) (iL r)) _=_
  rw [vI a r];rfl
theorem Wa{S:MS}{a r:Nat}{l:List Nat}(h:aH S.H r=some (.list (iL l))):ck S .In (.int (.ofNat a)) (.ref r)=some (lB a l):=by
 show ob (aH S.H r) _=_
 rw [h];exact vI a l
noncomputable def UH:FI:=⟨975,st 183⟩
def cL:Cx:=(fS (st 183)).names
def gy(k:Nat):List Stmt:=(fB (st 183)).drop k
def RV:xpZ:=gV (gy 2)
def gn(k:Nat):List Stmt:=(gW (gy 2)).drop k
def seK(r i:Nat):List Itm:=[.forI RV (.lst r) i (gn 0),.stm (gy 3)]
noncomputable def bG(mid ow:Nat)(zo zx:Int)(zp:Bool)(gen:Int):MV:=.tup [.int (.ofNat mid),.int (.ofNat ow),.int zo,.int zx,.bool zp,.int gen]
def cz(a:Nat)(row:MV)(th:Int)(tl:Loc):Loc:=(sO "ups",.ref 124)::(sO "lines",.ref 132)::(sO "asms",.ref 73)::(sO "asker",.int (.ofNat a))::(sO "row",row)::(sO "thing",.int th)::tl
def vJ(t:Nat)(b k:Bool):Loc:=[(sO "site",.int (.ofNat t)),(sO "beside",.bool b),(sO "kin",.bool k)]
def oj(f:Nat→List Nat)(ow t:Nat)(th:Int):Bool:=b2 (lB ow (f t)) (b2 (eqB th (-1)) true (b2 (leB 0 th) (lB t (f th.toNat)) false)) false
def om(zo:Int)(b k:Bool):Bool:=match zo with
 |2=>b2 b k false
 |3=>b
 |4=>k
 |5=>b2 b true k
 |_=>false
def nN(W:WP)(f:Nat→List Nat)(ow:Nat)(zo th:Int)(t:Nat):Bool:=b2 (eqB (.ofNat t) (.ofNat ow)) true (om zo (eqB (aU W t) (aU W ow)) (oj f ow t th))
def on(W:WP)(f:Nat→List Nat)(ow:Nat)(zo th:Int):List Nat→Bool
 |[]=>false
 |t::r=>b2 (nN W f ow zo th t) true (on W f ow zo th r)
def rf(W:WP)(f g:Nat→List Nat)(a ow:Nat)(zo zx th:Int):Bool:=b2 (eqB zo 6) true (on W f ow zo (b2 (!(eqB zx 0)) (-1) th) (g a))
section
variable(O:aX)(n d:Nat)(S:MS)(a mid ow t:Nat)(zo zx gen th:Int)(zp b k:Bool)(tl:Loc)(row:MV)
theorem Ak:(aA O (n+6) d).tst cL (cz a (bG mid ow zo zx zp gen) th []) S (aq (gy 0))=some (eqB zo 6,S):=by kernel_rfl
theorem RW(K:List Itm)(zl:Loc):(aA O (n+4) d).run cL (.stm (d9 (gy 0))::K) zl S=some (.bool true,S):=by kernel_rfl
theorem RX(K:List Itm)(zl:Loc):(aA O (n+4) d).run cL (.stm (dp (gy 0))::K) zl S=(aA O (n+3) d).run cL K zl S:=by kernel_rfl
theorem RY:(aA O (n+6) d).tst cL (cz a (bG mid ow zo zx zp gen) th []) S (aq (gy 1))=some (!(eqB zx 0),S):=by kernel_rfl
theorem RZ(K:List Itm):(aA O (n+6) d).run cL (.stm (d9 (gy 1))::K) (cz a row th []) S=(aA O (n+4) d).run cL K (cz a row (-1) []) S:=by kernel_rfl
theorem R0(K:List Itm)(zl:Loc):(aA O (n+4) d).run cL (.stm (dp (gy 1))::K) zl S=(aA O (n+3) d).run cL K zl S:=by kernel_rfl
theorem Wb:bv (aA O (n+4) d) cL (cz a row th []) S (dk (gy 2))=vB (jn S 132 (.ofNat a)):=by kernel_rfl
theorem R1:bL (aA O n d) cL (cz a row th []) S RV (.int (.ofNat t))=some (cz a row th [(sO "site",.int (.ofNat t))],S):=by kernel_rfl
theorem R3(t':Nat):bL (aA O n d) cL (cz a row th (vJ t' b k)) S RV (.int (.ofNat t))=some (cz a row th (vJ t b k),S):=by kernel_rfl
def R4(t:Nat)(q:Option (Bool×Bool)):Loc:=match q with
 |some (b,k)=>vJ t b k
 |none=>[(sO "site",.int (.ofNat t))]
theorem R5(q:Option (Bool×Bool)):(aA O (n+6) d).ev cL (cz a (bG mid ow zo zx zp gen) th (R4 t q)) S (bY (gn 0))=RU .Eq (jn S 73 (.ofNat t)) (fun s=>jn s 73 (.ofNat ow)):=by
 rcases q with _|⟨b,k⟩ <;>kernel_rfl
def rg(t:Nat)(b:Bool)(q:Option Bool):Loc:=match q with
 |some k=>vJ t b k
 |none=>[(sO "site",.int (.ofNat t)),(sO "beside",.bool b)]
theorem Ha(q:Option (Bool×Bool)):bL (aA O n d) cL (cz a row th (R4 t q)) S (dj (gn 0)) (.bool b)=some (cz a row th (rg t b (q.map (·.2))),S):=by
 rcases q with _|⟨b,k⟩ <;>kernel_rfl
theorem R6(q:Option Bool):(aA O (n+10) d).ev cL (cz a (bG mid ow zo zx zp gen) th (rg t b q)) S (bY (gn 1))=dW (aA O (n+9) d) cL (cz a (bG mid ow zo zx zp gen) th (rg t b q)) .And S [aW (cY (bY (gn 1))) 0,aW (cY (bY (gn 1))) 1]:=by
 rcases q with _|k <;>kernel_rfl
theorem R7(q:Option Bool):(aA O (n+9) d).ev cL (cz a (bG mid ow zo zx zp gen) th (rg t b q)) S (aW (cY (bY (gn 1))) 0)=RU .In (some (.int (.ofNat ow),S)) (fun s=>jn s 124 (.ofNat t)):=by
 rcases q with _|k <;>kernel_rfl
theorem R8(q:Option Bool):(aA O (n+9) d).ev cL (cz a (bG mid ow zo zx zp gen) th (rg t b q)) S (aW (cY (bY (gn 1))) 1)=dW (aA O (n+8) d) cL (cz a (bG mid ow zo zx zp gen) th (rg t b q)) .Or S [aW (cY (aW (cY (bY (gn 1))) 1)) 0,aW (cY (aW (cY (bY (gn 1))) 1)) 1]:=by
 rcases q with _|k <;>kernel_rfl
theorem R9(q:Option Bool):(aA O (n+8) d).ev cL (cz a (bG mid ow zo zx zp gen) th (rg t b q)) S (aW (cY (aW (cY (bY (gn 1))) 1)) 0)=some (.bool (eqB th (-1)),S):=by
 rcases q with _|k <;>kernel_rfl
abbrev Ra:xpZ:=aW (cY (aW (cY (bY (gn 1))) 1)) 1
theorem Rb(q:Option Bool):(aA O (n+8) d).ev cL (cz a (bG mid ow zo zx zp gen) th (rg t b q)) S Ra=dW (aA O (n+7) d) cL (cz a (bG mid ow zo zx zp gen) th (rg t b q)) .And S [aW (cY Ra) 0,aW (cY Ra) 1]:=by
 rcases q with _|k <;>kernel_rfl
theorem Rc(q:Option Bool):(aA O (n+7) d).ev cL (cz a (bG mid ow zo zx zp gen) th (rg t b q)) S (aW (cY Ra) 0)=some (.bool (leB 0 th),S):=by
 rcases q with _|k <;>kernel_rfl
theorem Rd(q:Option Bool):(aA O (n+7) d).ev cL (cz a (bG mid ow zo zx zp gen) th (rg t b q)) S (aW (cY Ra) 1)=RU .In (some (.int (.ofNat t),S)) (fun s=>jn s 124 th):=by
 rcases q with _|k <;>kernel_rfl
theorem Hb(q:Option Bool):bL (aA O n d) cL (cz a row th (rg t b q)) S (dj (gn 1)) (.bool k)=some (cz a row th (vJ t b k),S):=by
 rcases q with _|k <;>kernel_rfl
theorem Re:(aA O (n+8) d).tst cL (cz a (bG mid ow zo zx zp gen) th (vJ t b k)) S (aq (gn 2))=cF (aA O (n+7) d) cL (cz a (bG mid ow zo zx zp gen) th (vJ t b k)) .Or S [aW (cY (aq (gn 2))) 0,aW (cY (aq (gn 2))) 1]:=by kernel_rfl
theorem Rf:(aA O (n+7) d).tst cL (cz a (bG mid ow zo zx zp gen) th (vJ t b k)) S (aW (cY (aq (gn 2))) 0)=some (eqB (.ofNat t) (.ofNat ow),S):=by kernel_rfl
def nO(b k:Bool):List MV:=[.bool false,.bool false,.bool (b2 b k false),.bool b,.bool k,.bool (b2 b true k)]
theorem Rg:(aA O (n+7) d).tst cL (cz a (bG mid ow zo zx zp gen) th (vJ t b k)) S (aW (cY (aq (gn 2))) 1)=ca (jn (psh S (.list (nO b k))) S.H.length zo):=by
 cases b <;>cases k <;>kernel_rfl
theorem Rh(K:List Itm)(zl:Loc):(aA O (n+4) d).run cL (.stm (d9 (gn 2))::K) zl S=some (.bool true,S):=by kernel_rfl
theorem Ri(K:List Itm)(zl:Loc):(aA O (n+4) d).run cL (.stm (dp (gn 2))::.stm []::K) zl S=(aA O (n+2) d).run cL K zl S:=by kernel_rfl
theorem Wc(zl:Loc):(aA O (n+4) d).run cL [.stm (gy 3)] zl S=some (.bool false,S):=by kernel_rfl
theorem We:(aA O (n+61) (d+1)).cal UH [.ref 124,.ref 132,.ref 73,.int (.ofNat a),row,.int th] S=match O 975 (d+1) [.ref 124,.ref 132,.ref 73,.int (.ofNat a),row,.int th] S with
  |some r=>some r
  |none=>aL S ((aA O (n+60) d).run cL [.stm (gy 0)] (cz a row th []) ⟨S.H,S.dyn,aD,S.bas⟩):=by kernel_rfl
variable{O n d S a mid ow t zo zx gen th zp b k}{W:WP}{f g:Nat→List Nat}
theorem bK{α:Type}(l:List α)(x:α):aH (l++[x]) l.length=some x:=by rw [aJ];simp
theorem vK(h:zo=1∨zo=2∨zo=3∨zo=4∨zo=5):ca (jn (psh S (.list (nO b k))) S.H.length zo)=some (om zo b k,psh S (.list (nO b k))):=by
 have e:∀i v,aH (nO b k) i=some (.bool v)→ca (jn (psh S (.list (nO b k))) S.H.length (.ofNat i))=some (v,psh S (.list (nO b k))):=fun i v hv=>by
  rw [cV (g7 (bK _ _) hv)];rfl
 rcases h with rfl|rfl|rfl|rfl|rfl
 ·exact e 1 _ rfl
 ·exact e 2 _ rfl
 ·exact e 3 _ rfl
 ·exact e 4 _ rfl
 ·exact e 5 _ rfl
theorem Hc(hS:Seen W f g S)(ht:t < 7)(hth:th= -1∨th= -2∨∃p:Nat,p < 7∧th=.ofNat p)(q:Option Bool):(aA O (n+10) d).ev cL (cz a (bG mid ow zo zx zp gen) th (rg t b q)) S (bY (gn 1))=some (.bool (oj f ow t th),S):=by
 rw [R6,eK (a:=lB ow (f t)) (r:=some (.bool (b2 (eqB th (-1)) true (b2 (leB 0 th) (lB t (f th.toNat)) false)),S))]
 ·unfold oj
  cases lB ow (f t) <;>rfl
 ·rw [R7]
  show (match jn S 124 (.ofNat t)with|some (b,st)=>(ck st .In (.int (.ofNat ow)) b).map fun c=>(MV.bool c,st)|none=>none)=_
  rw [cV (hS.up ht)]
  show (ck S .In (.int (.ofNat ow)) (.ref (125+t))).map _=_
  rw [Wa (hS.us t ht)];rfl
 ·intro _;rw [R8,qK (R9 O n d S a mid ow t zo zx gen th zp b q) (r:=some (.bool (b2 (leB 0 th) (lB t (f th.toNat)) false),S))]
  ·cases eqB th (-1) <;>rfl
  ·intro hne;rw [Rb,eK (Rc O n d S a mid ow t zo zx gen th zp b q) (r:=some (.bool (lB t (f th.toNat)),S))]
   ·cases leB 0 th <;>rfl
   ·intro hle;rcases hth with rfl|rfl|⟨p,hp,rfl⟩
    ·cases hne
    ·cases hle
    ·rw [Rd]
     show (match jn S 124 (.ofNat p)with|some (b,st)=>(ck st .In (.int (.ofNat t)) b).map fun c=>(MV.bool c,st)|none=>none)=_
     rw [cV (hS.up hp)]
     show (ck S .In (.int (.ofNat t)) (.ref (125+p))).map _=_
     rw [Wa (hS.us p hp)];rfl
theorem vL(hS:Seen W f g S)(ht:t < 7)(ho:ow < 7)(hacc:zo=1∨zo=2∨zo=3∨zo=4∨zo=5)(hth:th= -1∨th= -2∨∃p:Nat,p < 7∧th=.ofNat p)(q:Option (Bool×Bool))(K:List Itm):
  ∃b k S',S'.dyn=S.dyn∧S'.low=S.low∧Seen W f g S'∧(aA O (n+14) d).run cL (.stm (gn 0)::K) (cz a (bG mid ow zo zx zp gen) th (R4 t q)) S=b2 (nN W f ow zo th t) (some (.bool true,S')) ((aA O (n+9) d).run cL K (cz a (bG mid ow zo zx zp gen) th (vJ t b k)) S'):=by
 have y0:(aA O (n+13) d).ev cL (cz a (bG mid ow zo zx zp gen) th (R4 t q)) S (bY (gn 0))=some (.bool (eqB (aU W t) (aU W ow)),S):=by
  refine (R5 O (n+7) d S a mid ow t zo zx gen th zp q).trans ?_;rw [cV (hS.asm ht)]
  show (match jn S 73 (.ofNat ow)with|some (b,st)=>(ck st .Eq (.int (aU W t)) b).map fun c=>(MV.bool c,st)|none=>none)=_
  rw [cV (hS.asm ho)];rfl
 generalize hb:eqB (aU W t) (aU W ow)=b at y0;generalize hk:oj f ow t th=k
 have hsit:nN W f ow zo th t=b2 (eqB (.ofNat t) (.ofNat ow)) true (om zo b k):=by unfold nN;rw [hb,hk]
 refine⟨b,k,b2 (eqB (.ofNat t) (.ofNat ow)) S (psh S (.list (nO b k))),?_,?_,?_,?_⟩
 ·cases eqB (.ofNat t) (.ofNat ow) <;>rfl
 ·cases eqB (.ofNat t) (.ofNat ow) <;>rfl
 ·cases eqB (.ofNat t) (.ofNat ow)
  ·exact hS.psh _
  ·exact hS
 ·refine (a8 (n:=n+13) (tl:=gn 1) (by kernel_rfl) (by kernel_rfl) y0 (Ha O (n+13) d S a t th b (bG mid ow zo zx zp gen) q)).trans ?_
  generalize q.map (·.2)=q'
  refine (a8 (n:=n+12) (tl:=gn 2) (by kernel_rfl) (by kernel_rfl) (Hc (n:=n+2) hS ht hth q') (Hb O (n+12) d S a t th b _ (bG mid ow zo zx zp gen) q')).trans ?_
  rw [hk,hsit]
  refine (aP (n:=n+11) (b:=b2 (eqB (.ofNat t) (.ofNat ow)) true (om zo b k)) (zz:=b2 (eqB (.ofNat t) (.ofNat ow)) S (psh S (.list (nO b k)))) (tl:=[]) (by kernel_rfl) ?_).trans ?_
  ·refine (Re O (n+3) d S a mid ow t zo zx gen th zp b k).trans ?_;unfold cF;rw [Rf O (n+3) d S a mid ow t zo zx gen th zp b k]
   cases eqB (.ofNat t) (.ofNat ow)with
   |true=>rfl
   |false=>
    show cF _ cL _ .Or S [_]=_
    unfold cF;rw [Rg O (n+3) d S a mid ow t zo zx gen th zp b k,vK hacc]
    show (match (om zo b k)with|_=>_)=_
    cases om zo b k <;>rfl
  ·generalize b2 (eqB (.ofNat t) (.ofNat ow)) true (om zo b k)=c
   cases c with
   |true=>exact Rh O (n+7) d _ _ _
   |false=>exact Ri O (n+7) d _ _ _
theorem yy(ha:a < 7)(ho:ow < 7)(hacc:zo=1∨zo=2∨zo=3∨zo=4∨zo=5)(hth:th= -1∨th= -2∨∃p:Nat,p < 7∧th=.ofNat p)(hl:∀t ∈ g a,t < 7):
  ∀(m i:Nat),i+m=(g a).length→∀(S:MS) (tl:Loc),Seen W f g S→(tl=[]∨∃t b k,tl=vJ t b k)→∃S',S'.dyn=S.dyn∧S'.low=S.low∧(aA O (n+6 * m+10) d).run cL (seK (133+a) i) (cz a (bG mid ow zo zx zp gen) th tl) S=some (.bool (on W f ow zo th ((g a).drop i)),S'):=by
 intro m
 induction m with
 |zero=>
  intro i hi S tl hS htl
  have e:(g a).drop i=[]:=List.drop_eq_nil_of_le (by lia)
  rw [e];refine⟨S,rfl,rfl,?_⟩
  refine (cR (n:=n+9) (hS.ls a ha) (by unfold iL;rw [aJ,ydZ,yjZ (by lia)];rfl)).trans ?_
  exact Wc O (n+5) d S _
 |succ m ih=>
  intro i hi S tl hS htl
  have hil:i < (g a).length:=by lia
  have ed:(g a).drop i=(g a)[i]::(g a).drop (i+1):=List.drop_eq_getElem_cons hil;have ht:=hl _ (List.getElem_mem hil)
  obtain⟨q,hq⟩:∃q,bL (aA O (n+6 * m+15) d) cL (cz a (bG mid ow zo zx zp gen) th tl) S RV (.int (.ofNat (g a)[i]))=some (cz a (bG mid ow zo zx zp gen) th (R4 (g a)[i] q),S):=by
   rcases htl with rfl|⟨t,b,k,rfl⟩
   ·exact⟨none,R1 _ _ _ _ _ _ _ _⟩
   ·exact⟨some (b,k),R3 _ _ _ _ _ _ _ _ _ _ _⟩
  obtain⟨b,k,S1,g1,g2,g3,g4⟩:=vL (O:=O) (n:=n+6 * m+1) (d:=d) (a:=a) (mid:=mid) (zx:=zx) (gen:=gen) (zp:=zp) hS ht ho hacc hth q [.forI RV (.lst (133+a)) (Nat.succ i) (gn 0),.stm (gy 3)]
  obtain⟨S2,z1,z2,z3⟩:=ih (i+1) (by lia) S1 _ g3 (.inr ⟨_,b,k,rfl⟩)
  rw [ed];unfold on
  cases hc:nN W f ow zo th (g a)[i]with
  |true=>
   refine⟨S1,g1,g2,?_⟩
   refine (bh (n:=n+6 * m+15) (hS.ls a ha) (v:=.int (.ofNat (g a)[i])) (by unfold iL;rw [aJ,ydZ,yiZ hil];rfl) hq).trans ?_
   rw [hc]at g4;exact g4
  |false=>
   refine⟨S2,z1.trans g1,z2.trans g2,?_⟩
   refine (bh (n:=n+6 * m+15) (hS.ls a ha) (v:=.int (.ofNat (g a)[i])) (by unfold iL;rw [aJ,ydZ,yiZ hil];rfl) hq).trans ?_
   rw [hc]at g4;exact g4.trans z3
theorem rh{v:MV}{S1:MS}(hn:bc 40 v=true)(hl:S.H.length≤aD)(h1:S1.dyn=S.dyn)(h2:S1.low=aD):aL S (some (v,S1))=some (v,S):=by
 obtain⟨H1,d1,l1,b1⟩:=S1;cases h1;cases h2;exact cW hn hl
theorem nf1{nn n:Nat}(h:nn=n+54∨nn=n+55):∃k,nn=k+4:=⟨nn - 4,by lia⟩
theorem nf2{nn n k:Nat}(h:nn=n+54∨nn=n+55)(hk:k≤3):nn - 10 - 6 * k+6 * k+10=nn:=by lia
theorem Hd(hO:∀d x s,O 975 d x s=none)(hS:Seen W f g S)(hs:S.H.length≤aD)(ha:a < 7)(ho:ow < 7)(hacc:zo=1∨zo=2∨zo=3∨zo=4∨zo=5∨zo=6)(hth:th= -1∨th= -2∨∃p:Nat,p < 7∧th=.ofNat p)(hl:∀t ∈ g a,t < 7)(hn:(g a).length≤3):
  (aA O (n+61) (d+1)).cal UH [.ref 124,.ref 132,.ref 73,.int (.ofNat a),bG mid ow zo zx zp gen,.int th] S=some (.bool (rf W f g a ow zo zx th),S):=by
 rw [We,hO]
 show aL S ((aA O (n+60) d).run cL [.stm (gy 0)] (cz a (bG mid ow zo zx zp gen) th []) ⟨S.H,S.dyn,aD,S.bas⟩)=_
 have hS':Seen W f g ⟨S.H,S.dyn,aD,S.bas⟩:=⟨hS.a,hS.k,hS.u,hS.l,hS.us,hS.ls⟩
 have key:∃S1:MS,S1.dyn=S.dyn∧S1.low=aD∧(aA O (n+60) d).run cL [.stm (gy 0)] (cz a (bG mid ow zo zx zp gen) th []) ⟨S.H,S.dyn,aD,S.bas⟩=some (.bool (rf W f g a ow zo zx th),S1):=by
  by_cases h6:zo=6
  ·subst h6;have t0:(aA O (n+59) d).tst cL (cz a (bG mid ow 6 zx zp gen) th []) ⟨S.H,S.dyn,aD,S.bas⟩ (aq (gy 0))=some (true,⟨S.H,S.dyn,aD,S.bas⟩):=Ak O (n+53) d _ a mid ow 6 zx gen th zp
   exact⟨⟨S.H,S.dyn,aD,S.bas⟩,rfl,rfl,(aP (n:=n+59) (tl:=gy 1) (by kernel_rfl) t0).trans (RW O (n+55) d _ _ _)⟩
  ·have hacc':zo=1∨zo=2∨zo=3∨zo=4∨zo=5:=by
    rcases hacc with h|h|h|h|h|h
    ·exact .inl h
    ·exact .inr (.inl h)
    ·exact .inr (.inr (.inl h))
    ·exact .inr (.inr (.inr (.inl h)))
    ·exact .inr (.inr (.inr (.inr h)))
    ·exact absurd h h6
   have hne:eqB zo 6=false:=by rcases hacc' with rfl|rfl|rfl|rfl|rfl <;>rfl
   have t0:=Ak O (n+53) d ⟨S.H,S.dyn,aD,S.bas⟩ a mid ow zo zx gen th zp;rw [hne]at t0
   have r0:=(aP (n:=n+59) (K:=[]) (tl:=gy 1) (by kernel_rfl) t0).trans (RX O (n+55) d _ _ _)
   have t1:=RY O (n+51) d ⟨S.H,S.dyn,aD,S.bas⟩ a mid ow zo zx gen th zp
   have fin:∀th':Int,(th'= -1∨th'= -2∨∃p:Nat,p < 7∧th'=.ofNat p)→∀nn,nn=n+54∨nn=n+55→∃S1:MS,S1.dyn=S.dyn∧S1.low=aD∧(aA O (nn+1) d).run cL [.stm (gy 2)] (cz a (bG mid ow zo zx zp gen) th' []) ⟨S.H,S.dyn,aD,S.bas⟩=some (.bool (on W f ow zo th' (g a)),S1):=fun th' hth' nn hnn=>by
    have hsrc:bv (aA O nn d) cL (cz a (bG mid ow zo zx zp gen) th' []) ⟨S.H,S.dyn,aD,S.bas⟩ (dk (gy 2))=some (.lst (133+a),⟨S.H,S.dyn,aD,S.bas⟩):=by
     obtain⟨n4,rfl⟩:=nf1 hnn;refine (Wb O n4 d _ a th' _).trans ?_;rw [cV (hS'.ln ha)]
     show ob (jV ⟨S.H,S.dyn,aD,S.bas⟩ (133+a)) (fun _=>some (Src.lst (133+a),(⟨S.H,S.dyn,aD,S.bas⟩:MS)))=_
     rw [kj (hS'.ls a ha)];rfl
    obtain⟨S1,z1,z2,z3⟩:=yy (O:=O) (n:=nn - 10 - 6 * (g a).length) (d:=d) (mid:=mid) (zx:=zx) (gen:=gen) (zp:=zp) (W:=W) (f:=f) ha ho hacc' hth' hl (g a).length 0 (by simp) _ [] hS' (.inl rfl)
    rw [nf2 hnn hn]at z3
    exact⟨S1,z1,z2,(eN (n:=nn) (K:=[]) (tl:=gy 3) (by kernel_rfl) hsrc).trans z3⟩
   cases hst:eqB zx 0 with
   |true=>
    obtain⟨S1,z1,z2,z3⟩:=fin th hth (n+55) (.inr rfl);refine⟨S1,z1,z2,?_⟩;rw [hst]at t1;have t1':(aA O (n+57) d).tst cL (cz a (bG mid ow zo zx zp gen) th []) ⟨S.H,S.dyn,aD,S.bas⟩ (aq (gy 1))=some (false,⟨S.H,S.dyn,aD,S.bas⟩):=t1
    refine r0.trans ((aP (n:=n+57) (K:=[]) (tl:=gy 2) (by kernel_rfl) t1').trans ((R0 O (n+53) d _ _ _).trans (z3.trans ?_)))
    unfold rf;rw [hne,hst];rfl
   |false=>
    obtain⟨S1,z1,z2,z3⟩:=fin (-1) (.inl rfl) (n+54) (.inl rfl);refine⟨S1,z1,z2,?_⟩;rw [hst]at t1;have t1':(aA O (n+57) d).tst cL (cz a (bG mid ow zo zx zp gen) th []) ⟨S.H,S.dyn,aD,S.bas⟩ (aq (gy 1))=some (true,⟨S.H,S.dyn,aD,S.bas⟩):=t1
    refine r0.trans ((aP (n:=n+57) (K:=[]) (tl:=gy 2) (by kernel_rfl) t1').trans ((RZ O (n+51) d _ a th _ _).trans (z3.trans ?_)))
    unfold rf;rw [hne,hst];rfl
 obtain⟨S1,z1,z2,z3⟩:=key;rw [z3];exact rh rfl hs z1 z2
end
def BT(W:WP)(own:Int)(T:List MO)(dyn:List MV)(lo ba:Nat):MS:=⟨eq W own++T,dyn,lo,ba⟩
noncomputable def Tells(O:aX)(a d:Nat)(args:List MV)(S:MS)(v:MV):Prop:=∀lo,O a d args ⟨S.H,S.dyn,lo,S.bas⟩=some (v,⟨S.H,S.dyn,lo,S.bas⟩)
noncomputable def yz:FI:=⟨533,st 134⟩
def ri:Cx:=(fS (st 134)).names
def rj(k:Nat):List Stmt:=(fB (st 134)).drop k
def zA(ow zo:Int)(zm:MV):Loc:=[(sO "cx",.ref 122),(sO "tid",.int ow),(sO "access",.int zo),(sO "through",zm)]
noncomputable def vM:List Nat:=[1,2,3,5,6,7,8,10,11,12,14,15,16,17,18,19,20,22]
noncomputable def sD:List Nat:=[4,9,13,21]
noncomputable def sE(m:Nat):Nat:=match Nat.ble m 6 with
 |true=>0
 |false=>match Nat.ble m 10 with
  |true=>1
  |false=>match Nat.ble m 13 with
   |true=>2
   |false=>match Nat.ble m 17 with
    |true=>3
    |false=>match Nat.ble m 21 with
     |true=>4
     |false=>0
noncomputable def oo:FI:=⟨540,st 135⟩
def vN:Cx:=(fS (st 135)).names
def vO(k:Nat):List Stmt:=(fB (st 135)).drop k
def vP(m:Nat)(zm:MV):Loc:=[(sO "cx",.ref 122),(sO "mid",.int (.ofNat m)),(sO "through",zm)]
noncomputable def Rj:FI:=⟨526,st 132⟩
def lC:Cx:=(fS (st 132)).names
def lT(k:Nat):List Stmt:=(fB (st 132)).drop k
def Wf(fr:Nat)(mr zm:MV):Loc:=[(sO "store",.ref 0),(sO "from_tid",.int (.ofNat fr)),(sO "mref",mr),(sO "through",zm)]
def zB(fr m:Nat)(at':MV)(args:List MV)(zm:MV)(asm:Int)(tl:Loc):Loc:=(sO "store",.ref 0)::(sO "from_tid",.int (.ofNat fr))::(sO "mref",.tup [at',.int (.ofNat m),.tup args])::(sO "through",zm)::(sO "owner",at')::(sO "mid",.int (.ofNat m))::(sO "margs",.tup args)::(sO "asm",.int asm)::tl
section
variable(O:aX)(n d:Nat)(W:WP)(own:Int)(T:List MO)(dyn:List MV)(lo ba:Nat)(ow zo asm:Int)(zm at' arg:MV)(m fr:Nat)(args:List MV)(tl:Loc)
theorem Rk:(aA O (n+6) d).tst ri (zA ow zo zm) (BT W own T dyn lo ba) (aq (rj 0))=some (eqB own 0,BT W own T dyn lo ba):=by kernel_rfl
theorem Rl(K:List Itm)(zl:Loc)(S:MS):(aA O (n+4) d).run ri (.stm (dp (rj 0))::K) zl S=(aA O (n+3) d).run ri K zl S:=by kernel_rfl
theorem Rm:(aA O (n+6) d).ev ri (zA ow zo zm) (BT W own T dyn lo ba) (iz (rj 1))=(aA O (n+5) d).cal io [.ref 0,.int own,.int ow,.int zo,zm] (BT W own T dyn lo ba):=by kernel_rfl
theorem Ro(S:MS):(aA O (n+13) (d+1)).cal yz [.ref 122,.int ow,.int zo,zm] S=match O 533 (d+1) [.ref 122,.int ow,.int zo,zm] S with
  |some r=>some r
  |none=>aL S ((aA O (n+12) d).run ri [.stm (rj 0)] (zA ow zo zm) ⟨S.H,S.dyn,aD,S.bas⟩):=by kernel_rfl
theorem Rp(S:MS):(aA O (n+25) (d+1)).cal oo [.ref 122,.int (.ofNat m),zm] S=match O 540 (d+1) [.ref 122,.int (.ofNat m),zm] S with
  |some r=>some r
  |none=>aL S ((aA O (n+24) d).run vN [.stm (vO 0)] (vP m zm) ⟨S.H,S.dyn,aD,S.bas⟩):=by kernel_rfl
theorem Rq:∀m ∈ vM,(aA O (n+24) d).run vN [.stm (vO 0)] (vP m zm) (BT W own T dyn lo ba)=(aA O (n+19) d).cal yz [.ref 122,.int (.ofNat (Nat.add 64 (sE m))),.int (accN W m),zm] (BT W own T dyn lo ba):=
 ai vM _ _ (by kernel_rfl)
theorem Rr:∀m ∈ sD,(aA O (n+24) d).run vN [.stm (vO 0)] (vP m zm) (BT W own T dyn lo ba)=(aA O (n+18) d).cal yz [.ref 122,.int (.ofNat (Nat.add 64 (sE m))),.int (accN W m),.int (-1)] (BT W own T dyn lo ba):=
 ai sD _ _ (by kernel_rfl)
theorem Wg(S:MS)(mr:MV):(aA O (n+41) (d+1)).cal Rj [.ref 0,.int (.ofNat fr),mr,zm] S=match O 526 (d+1) [.ref 0,.int (.ofNat fr),mr,zm] S with
  |some r=>some r
  |none=>aL S ((aA O (n+40) d).run lC [.stm (lT 0)] (Wf fr mr zm) ⟨S.H,S.dyn,aD,S.bas⟩):=by kernel_rfl
theorem Wh{a:Nat}(ha:a < 7):(aA O (n+40) d).run lC [.stm (lT 0)] (Wf (Nat.add 64 a) (.tup [at',.int (.ofNat (Nat.succ m)),.tup args]) zm) (BT W own T dyn lo ba)=(aA O (n+36) d).run lC [.stm (lT 3)] (zB (Nat.add 64 a) (Nat.succ m) at' args zm (aU W a) []) (BT W own T dyn lo ba):=
 (by revert a;apply lR 7;kernel_rfl)
theorem Rs(S:MS):(aA O (n+8) d).tst lC (zB fr m at' args zm asm tl) S (aq (lT 3))=jQ (ca ((aA O (n+5) d).cal lS [.ref 0,.int asm,at'] S)):=by kernel_rfl
theorem Rt(K:List Itm)(zl:Loc)(S:MS):(aA O (n+4) d).run lC (.stm (d9 (lT 3))::K) zl S=some (.bool false,S):=by kernel_rfl
theorem Ru(K:List Itm)(zl:Loc)(S:MS):(aA O (n+4) d).run lC (.stm (dp (lT 3))::K) zl S=(aA O (n+3) d).run lC K zl S:=by kernel_rfl
theorem Rv(S:MS):(aA O (n+8) d).run lC [.stm (lT 4)] (zB fr m at' [] zm asm []) S=(aA O (n+6) d).run lC [.stm (lT 5)] (zB fr m at' [] zm asm []) S:=by kernel_rfl
def Rw:List Stmt:=gW (lT 4)
def Zo(arg:MV):List Itm:=[.forI (gV (lT 4)) (.tup [arg]) 1 Rw,.stm (lT 5)]
theorem Rx(S:MS):(aA O (n+12) d).run lC [.stm (lT 4)] (zB fr m at' [arg] zm asm []) S=(aA O (n+10) d).run lC (.stm Rw::Zo arg) (zB fr m at' [arg] zm asm [(sO "k",arg)]) S:=by kernel_rfl
theorem Ry(S:MS):(aA O (n+8) d).tst lC (zB fr m at' args zm asm [(sO "k",arg)]) S (aq Rw)=jQ (ca ((aA O (n+5) d).cal lS [.ref 0,.int asm,arg] S)):=by kernel_rfl
theorem SA(K:List Itm)(zl:Loc)(S:MS):(aA O (n+4) d).run lC (.stm (d9 Rw)::K) zl S=some (.bool false,S):=by kernel_rfl
theorem SB(zl:Loc)(S:MS):(aA O (n+8) d).run lC (.stm (dp Rw)::.stm []::Zo arg) zl S=(aA O (n+5) d).run lC [.stm (lT 5)] zl S:=by kernel_rfl
theorem Wi(hm:m < 22):(aA O (n+10) d).run lC [.stm (lT 5)] (zB fr (Nat.succ m) at' args zm asm []) (BT W own T dyn lo ba)=(aA O (n+7) d).cal io [.ref 0,.int (.ofNat fr),.int (.ofNat (Nat.add 64 (sE (Nat.succ m)))),.int (accN W (Nat.succ m)),zm] (BT W own T dyn lo ba):=
 (by revert m;apply lR 22;kernel_rfl)
theorem SC(hm:m < 22):(aA O (n+10) d).run lC [.stm (lT 5)] (zB fr (Nat.succ m) at' args zm asm [(sO "k",arg)]) (BT W own T dyn lo ba)=(aA O (n+7) d).cal io [.ref 0,.int (.ofNat fr),.int (.ofNat (Nat.add 64 (sE (Nat.succ m)))),.int (accN W (Nat.succ m)),zm] (BT W own T dyn lo ba):=
 (by revert m;apply lR 22;kernel_rfl)
variable{O n d W own T dyn lo ba ow zo asm zm at' arg m fr args tl}
theorem qT{s:Bool}(hO:∀d x s,O 533 d x s=none)(hs:(BT W own T dyn lo ba).H.length≤aD)(ho:eqB own 0=false)(h:Tells O 519 d [.ref 0,.int own,.int ow,.int zo,zm] (BT W own T dyn lo ba) (.bool s)):
  (aA O (n+13) (d+1)).cal yz [.ref 122,.int ow,.int zo,zm] (BT W own T dyn lo ba)=some (.bool s,BT W own T dyn lo ba):=by
 rw [Ro,hO];have t:=Rk O (n+5) d W own T dyn aD ba ow zo zm;rw [ho]at t
 have r:=(aP (n:=n+11) (K:=[]) (tl:=rj 1) (by kernel_rfl) t).trans ((Rl O (n+7) d _ _ _).trans ((iG (n:=n+9) (tl:=[]) (by kernel_rfl)).trans ((Rm O (n+3) d W own T dyn aD ba ow zo zm).trans (bA (n:=n+7) (f:=io) (h aD)))))
 show aL _ ((aA O (n+12) d).run ri [.stm (rj 0)] (zA ow zo zm) (BT W own T dyn aD ba))=_
 rw [r];exact cW rfl hs
theorem zC{s:Bool}(hO:∀d x s,O 533 d x s=none)(hO2:∀d x s,O 540 d x s=none)(hs:(BT W own T dyn lo ba).H.length≤aD)(ho:eqB own 0=false){st:Bool}(hm:m ∈ b2 st sD vM)
  (h:Tells O 519 d [.ref 0,.int own,.int (.ofNat (Nat.add 64 (sE m))),.int (accN W m),b2 st (.int (-1)) zm] (BT W own T dyn lo ba) (.bool s)):(aA O (n+25) (d+2)).cal oo [.ref 122,.int (.ofNat m),zm] (BT W own T dyn lo ba)=some (.bool s,BT W own T dyn lo ba):=by
 rw [Rp,hO2]
 show aL _ ((aA O (n+24) (d+1)).run vN [.stm (vO 0)] (vP m zm) (BT W own T dyn aD ba))=_
 have r:(aA O (n+24) (d+1)).run vN [.stm (vO 0)] (vP m zm) (BT W own T dyn aD ba)=some (.bool s,BT W own T dyn aD ba):=by
  cases st with
  |false=>exact (Rq O n (d+1) W own T dyn aD ba zm m hm).trans (qT (n:=n+6) hO hs ho fun lo=>h lo)
  |true=>exact (Rr O n (d+1) W own T dyn aD ba zm m hm).trans (qT (n:=n+5) hO hs ho fun lo=>h lo)
 rw [r];exact cW rfl hs
theorem nP{n:Nat}{q:Bool}{args:List MV}{S:MS}{f:FI}(h:O f.ad d args S=some (.bool q,S)):jQ (ca ((aA O (n+1) d).cal f args S))=some (!q,S):=by
 rw [bA h];rfl
theorem He{a:Nat}{q1 q2 s:Bool}(hO:∀d x s,O 526 d x s=none)(hs:(BT W own T dyn lo ba).H.length≤aD)(ha:a < 7)(hm:m < 22)(hg:args=[]∧q2=true∨args=[arg]∧Tells O 477 d [.ref 0,.int (aU W a),arg] (BT W own T dyn lo ba) (.bool q2))
  (h1:Tells O 477 d [.ref 0,.int (aU W a),at'] (BT W own T dyn lo ba) (.bool q1)) (h2:Tells O 519 d [.ref 0,.int (.ofNat (Nat.add 64 a)),.int (.ofNat (Nat.add 64 (sE (Nat.succ m)))),.int (accN W (Nat.succ m)),zm] (BT W own T dyn lo ba) (.bool s)):
  (aA O (n+41) (d+1)).cal Rj [.ref 0,.int (.ofNat (Nat.add 64 a)),.tup [at',.int (.ofNat (Nat.succ m)),.tup args],zm] (BT W own T dyn lo ba)=some (.bool (b2 q1 (b2 q2 s false) false),BT W own T dyn lo ba):=by
 rw [Wg,hO]
 show aL _ ((aA O (n+40) d).run lC [.stm (lT 0)] _ (BT W own T dyn aD ba))=_
 have r:(aA O (n+40) d).run lC [.stm (lT 0)] (Wf (Nat.add 64 a) (.tup [at',.int (.ofNat (Nat.succ m)),.tup args]) zm) (BT W own T dyn aD ba)=some (.bool (b2 q1 (b2 q2 s false) false),BT W own T dyn aD ba):=by
  refine (Wh O n d W own T dyn aD ba zm at' m args ha).trans ?_;have t3:=(Rs O (n+27) d (aU W a) zm at' (Nat.succ m) (Nat.add 64 a) args [] (BT W own T dyn aD ba)).trans (nP (n:=n+31) (f:=lS) (h1 aD))
  refine (aP (n:=n+35) (K:=[]) (tl:=lT 4) (by kernel_rfl) t3).trans ?_
  cases q1 with
  |false=>exact Rt O (n+31) d _ _ _
  |true=>
   refine (Ru O (n+31) d _ _ _).trans ?_;rcases hg with⟨rfl,rfl⟩|⟨rfl,h3⟩
   ·exact (Rv O (n+26) d (aU W a) zm at' (Nat.succ m) (Nat.add 64 a) _).trans ((Wi O (n+22) d W own T dyn aD ba (aU W a) zm at' m (Nat.add 64 a) [] hm).trans (bA (n:=n+28) (f:=io) (h2 aD)))
   ·refine (Rx O (n+22) d (aU W a) zm at' arg (Nat.succ m) (Nat.add 64 a) _).trans ?_;have t4:=(Ry O (n+23) d (aU W a) zm at' arg (Nat.succ m) (Nat.add 64 a) [arg] (BT W own T dyn aD ba)).trans (nP (n:=n+27) (f:=lS) (h3 aD))
    refine (aP (n:=n+31) (tl:=[]) (by kernel_rfl) t4).trans ?_
    cases q2 with
    |false=>exact SA O (n+27) d _ _ _
    |true=>exact (SB O (n+23) d arg _ _).trans ((SC O (n+18) d W own T dyn aD ba (aU W a) zm at' arg m (Nat.add 64 a) [arg] hm).trans (bA (n:=n+24) (f:=io) (h2 aD)))
 rw [r];exact cW rfl hs
end
noncomputable def Wj:FI:=⟨566,st 139⟩
def dQ:Cx:=(fS (st 139)).names
def vQ(k:Nat):List Stmt:=(fB (st 139)).drop k
def Zp:xpZ:=gV (vQ 2)
def dA(k:Nat):List Stmt:=(gW (vQ 2)).drop k
noncomputable def wI(ow:Nat):MV:=.ref (Nat.add (Nat.mul 2 ow) 10)
def UI(at':MV)(ow:Nat)(zm:MV)(tl:Loc):Loc:=(sO "cx",.ref 122)::(sO "at",at')::(sO "t",wI ow)::(sO "name",.str (sO "f"))::(sO "through",zm)::tl
def er(j:Bool)(at':MV)(ow:Nat)(zm:MV)(h:Bool)(tl:Loc):Loc:=UI at' ow zm ((sO "out",.ref (b2 j 142 141))::(sO "hidden",.bool h)::tl)
noncomputable def mR(m:Nat):MV:=.ref (Nat.add (Nat.mul 2 m) 25)
def fw(q:Option (Nat×Nat)):Loc:=match q with
 |some (m,r)=>[(sO "mid",.int (.ofNat m)),(sO "m",mR r)]
 |none=>[]
def rk(j:Bool)(f g:Nat→List Nat)(L:List MV):List MO:=g6 124 f++g6 132 g++b2 j [.list [.int 9,.int 13],.list L] [.list L]
noncomputable def dt(ow:Nat):List Nat:=match ow with
 |0=>[1,2,3,4,5,6]
 |1=>[7,8,9]
 |2=>[11,12,13]
 |3=>[14,15,16]
 |_=>[18,19,20,21]
abbrev HS(j:Bool)(W:WP)(own:Int)(f g:Nat→List Nat)(L:List MV)(R:List MO)(dyn:List MV)(lo:Nat):MS:=BT W own (rk j f g L++R) dyn lo 123
noncomputable def Wk:FI:=⟨547,st 136⟩
def J1:Cx:=(fS (st 136)).names
def Am(k:Nat):List Stmt:=(fB (st 136)).drop k
def SD(ow m:Nat):Loc:=[(sO "t",wI ow),(sO "store",.ref 0),(sO "mid",.int (.ofNat m))]
noncomputable def SE:FI:=⟨552,st 137⟩
def OA(W:WP):aX:=gk bB (gk (RG W) (UG W))
noncomputable def Wl:FI:=⟨349,st 97⟩
abbrev TS(j:Bool)(W:WP)(own:Int)(f g:Nat→List Nat)(L vs us:List MV)(dyn:List MV)(lo:Nat):MS:=BT W own (rk j f g L++[MO.list vs,MO.list us]) dyn lo 123
section
variable(O:aX)(n d:Nat)(W:WP)(own:Int)(f g:Nat→List Nat)(L vs:List MV)(R T:List MO)(dyn:List MV)(lo ba:Nat)(zm at':MV)(m ow:Nat)(h:Bool)(K:List Itm)
theorem Wm:(aA O (n+80) d).run dQ [.stm (vQ 0)] (UI at' ow zm []) (HS j W own f g L [] dyn lo)=(aA O (n+78) d).run dQ [.stm (vQ 2)] (er j at' ow zm false []) (HS j W own f g L [.list []] dyn lo):=by cases j <;>kernel_rfl
theorem Wn(S:MS)(t:Int):(aA O (n+71) (d+1)).cal Wl [.ref 0,.int t,.str (sO "f")] S=match O 349 (d+1) [.ref 0,.int t,.str (sO "f")] S with
  |some r=>some r
  |none=>aL S ((aA O (n+70) d).run (fS (st 97)).names [.stm (fB (st 97))] [(sO "store",.ref 0),(sO "tid",.int t),(sO "name",.str (sO "f"))] ⟨S.H,S.dyn,aD,S.bas⟩):=by kernel_rfl
theorem Wo(hO:∀d x s,O 349 d x s=none)(ho:ow < 5):(aA O (n+71) (d+1)).cal Wl [.ref 0,.int (.ofNat (Nat.add 64 ow)),.str (sO "f")] (HS j W own f g L [.list []] dyn lo)=some (.ref (b2 j 143 142),HS j W own f g L [.list [],.list (iL (dt ow))] dyn lo):=by
 rw [Wn,hO]
 exact (by revert ow;revert j;apply Ad 5;kernel_rfl)
theorem Wp(ho:ow < 5):bv (aA O (n+4) d) dQ (er j at' ow zm h []) (HS j W own f g L R dyn lo) (dk (vQ 2))=vB ((aA O (n+3) d).cal Wl [.ref 0,.int (.ofNat (Nat.add 64 ow)),.str (sO "f")] (HS j W own f g L R dyn lo)):=by
 have:ow=0∨ow=1∨ow=2∨ow=3∨ow=4:=by lia
 rcases this with rfl|rfl|rfl|rfl|rfl <;>cases j <;>kernel_rfl
theorem Wq(q:Option (Nat×Nat))(S:MS):bL (aA O n d) dQ (er j at' ow zm h (fw q)) S Zp (.int (.ofNat m))=some (er j at' ow zm h (match q with|some (_,r)=>fw (some (m,r))|none=>[(sO "mid",.int (.ofNat m))]),S):=by
 rcases q with _|⟨a,b⟩ <;>cases j <;>kernel_rfl
theorem Hf(tl:List Stmt)(q:Option (Nat×Nat))(hm:m < 22):(aA O (n+8) d).run dQ (.stm (fD (dA 0)::tl)::K) (er j at' ow zm h (match q with|some (_,r)=>fw (some (Nat.succ m,r))|none=>[(sO "mid",.int (.ofNat (Nat.succ m)))])) (BT W own T dyn lo ba)=(aA O (n+7) d).run dQ (.stm tl::K) (er j at' ow zm h (fw (some (Nat.succ m,Nat.succ m)))) (BT W own T dyn lo ba):=by
 rcases q with _|⟨a,b⟩
 ·exact (by revert m;revert j;apply Ad 22;kernel_rfl)
 ·exact (by revert m;revert j;apply Ad 22;kernel_rfl)
theorem SF(q:Option (Nat×Nat))(hm:m < 22):(aA O (n+8) d).run dQ (.stm (dA 0)::K) (er j at' ow zm h (match q with|some (_,r)=>fw (some (Nat.succ m,r))|none=>[(sO "mid",.int (.ofNat (Nat.succ m)))])) (BT W own T dyn lo ba)=(aA O (n+7) d).run dQ (.stm (dA 1)::K) (er j at' ow zm h (fw (some (Nat.succ m,Nat.succ m)))) (BT W own T dyn lo ba):=by
 rw [show dA 0=fD (dA 0)::dA 1 by kernel_rfl]
 exact Hf (tl:=dA 1) (q:=q) (hm:=hm) ..
noncomputable def sF:List (Nat×Nat):=[(0,5),(1,7),(1,9),(2,11)]
noncomputable def zD:List (Nat×Nat):=[(0,1),(0,2),(0,3),(0,4),(0,6),(1,8),(2,12),(2,13),(3,14),(3,15),(3,16),(4,18),(4,19),(4,20),(4,21)]
variable(us:List MV)
theorem Wr:∀p ∈ sF,(aA O (n+9) d).tst J1 (SD p.1 p.2) (BT W own T dyn lo ba) (aq (Am 0))=some (!(eqB (accN W p.2) 1),BT W own T dyn lo ba):=by
 intro p hp;simp only [sF,yhZ,ygZ,or_false]at hp
 rcases hp with rfl|rfl|rfl|rfl <;>kernel_rfl
theorem Ws(K:List Itm)(zl:Loc)(S:MS):(aA O (n+4) d).run J1 (.stm (d9 (Am 0))::K) zl S=some (.bool false,S):=by kernel_rfl
theorem Wt:∀p ∈ sF,(aA O (n+29) d).run J1 [.stm (dp (Am 0)),.stm (Am 1)] (SD p.1 p.2) (BT W own T dyn lo ba)=some (.bool false,BT W own T dyn lo ba):=by
 intro p hp;simp only [sF,yhZ,ygZ,or_false]at hp
 rcases hp with rfl|rfl|rfl|rfl <;>kernel_rfl
noncomputable def Hg(m:Nat):Bool:=Nat.beq m 18
noncomputable def Wu(m:Nat):Bool:=Nat.beq m 6
theorem SG:∀p ∈ zD,(aA O (n+30) d).run J1 [.stm (Am 0)] (SD p.1 p.2) (BT W own T dyn lo ba)=some (.bool (Hg p.2),BT W own T dyn lo ba):=by
 intro p hp;simp only [zD,yhZ,ygZ,or_false]at hp
 rcases hp with rfl|rfl|rfl|rfl|rfl|rfl|rfl|rfl|rfl|rfl|rfl|rfl|rfl|rfl|rfl <;>kernel_rfl
theorem SH(S:MS):(aA O (n+36) d).tst dQ (er j at' ow zm h (fw (some (m,m)))) S (aq (dA 1))=cF (aA O (n+35) d) dQ (er j at' ow zm h (fw (some (m,m)))) .Or S [aW (cY (aq (dA 1))) 0,aW (cY (aq (dA 1))) 1]:=by cases j <;>kernel_rfl
theorem Hh:∀p ∈ sF++zD,(aA O (n+35) d).tst dQ (er j at' p.1 zm h (fw (some (p.2,p.2)))) (BT W own T dyn lo ba) (aW (cY (aq (dA 1))) 0)=some (Wu p.2,BT W own T dyn lo ba):=
 (by revert j;apply mB;kernel_rfl)
theorem Hi:(aA O (n+35) d).tst dQ (er j at' ow zm h (fw (some (m,m)))) (BT W own T dyn lo ba) (aW (cY (aq (dA 1))) 1)=ca ((aA O (n+33) d).cal Wk [wI ow,.ref 0,.int (.ofNat m)] (BT W own T dyn lo ba)):=by cases j <;>kernel_rfl
theorem SI(S:MS):(aA O (n+100) d).tst dQ (er j at' ow zm h (fw (some (m,m)))) S (aq (dA 2))=ca ((aA O (n+98) d).cal SE [.ref 122,at',.int (.ofNat m)] S):=by cases j <;>kernel_rfl
theorem SJ(S:MS):(aA O (n+30) d).tst dQ (er j at' ow zm h (fw (some (m,m)))) S (aq (dA 3))=ca ((aA O (n+28) d).cal oo [.ref 122,.int (.ofNat m),zm] S):=by cases j <;>kernel_rfl
noncomputable def UJ:List Nat:=[1,2,3,4,5,7,9,11,12,13,15,16,19,20,21]
theorem SK:∀m ∈ UJ,(aA (OA W) (n+98) (d+1)).cal SE [.ref 122,at',.int (.ofNat m)] (TS j W own f g L vs us dyn lo)=some (.bool false,TS j W own f g L vs us dyn lo):=
 (by revert j;apply mB;kernel_rfl)
theorem Wv:(aA (OA W) (n+98) (d+12)).cal SE [.ref 122,.int 17,.int (.ofNat 8)] (TS j W own f g L vs us dyn lo)=some (.bool W.b1,TS j W own f g L vs us dyn lo):=by
 obtain⟨_,b1⟩:=W
 cases b1 <;>cases j <;>kernel_rfl
theorem SL:(aA (OA W) (n+98) (d+12)).cal SE [.ref 122,.int 19,.int (.ofNat 14)] (TS j W own f g L vs us dyn lo)=some (.bool true,TS j W own f g L vs us dyn lo):=by
 obtain⟨_,b1,b2⟩:=W
 cases b1 <;>cases b2 <;>cases j <;>kernel_rfl
end
def x1(m:Nat):Bool:=b2 (Wu m) true (Hg m)
noncomputable def x2(W:WP)(m:Nat):Bool:=match Nat.beq m 8 with
 |true=>W.b1
 |false=>Nat.beq m 14
def J2(W:WP)(sv:Nat→Bool)(m:Nat)(vs:List MV):List MV:=b2 (x1 m) vs (b2 (x2 W m) vs (b2 (sv m) (vs++[.int (.ofNat m)]) vs))
def UK(W:WP)(sv:Nat→Bool)(m:Nat)(h:Bool):Bool:=b2 (x1 m) h (b2 (x2 W m) h (b2 (sv m) h true))
def SM(W:WP)(sv:Nat→Bool)(m:Nat)(c lo:Nat):Nat:=b2 (x1 m) lo (b2 (x2 W m) lo (b2 (sv m) (mn c lo) lo))
def fF(W:WP)(sv:Nat→Bool):List Nat→List MV→List MV
 |[],vs=>vs
 |m::r,vs=>fF W sv r (J2 W sv m vs)
def fG(W:WP)(sv:Nat→Bool):List Nat→Bool→Bool
 |[],vs=>vs
 |m::r,vs=>fG W sv r (UK W sv m vs)
def lU:List (Nat×Nat):=sF++zD
def jT(j:Bool)(i:Nat):List Itm:=[.forI Zp (.lst (b2 j 143 142)) i (dA 0),.stm (vQ 3)]
theorem Hj(W:WP):∀d x s,OA W 533 d x s=none:=fun d x s=>by kernel_rfl
theorem Hk(W:WP):∀d x s,OA W 540 d x s=none:=fun d x s=>by kernel_rfl
theorem Hm(W:WP):∀d x s,OA W 547 d x s=none:=fun d x s=>by kernel_rfl
theorem Hn(W:WP):∀d x s,OA W 566 d x s=none:=fun d x s=>by kernel_rfl
theorem Ho(W:WP):∀d x s,OA W 349 d x s=none:=fun d x s=>by kernel_rfl
theorem Hp(W:WP):∀d x s,OA W 526 d x s=none:=fun d x s=>by kernel_rfl
theorem Hq(W:WP):∀d x s,OA W 975 d x s=none:=fun d x s=>by kernel_rfl
theorem vR(W:WP):∀d x s,OA W 982 d x s=none:=fun d x s=>by kernel_rfl
theorem Hr(W:WP):∀d x s,OA W 961 d x s=none:=fun d x s=>by kernel_rfl
section
variable(O:aX)(n d:Nat)(W:WP)(own:Int)(f g:Nat→List Nat)(L vs us:List MV)(R T:List MO)(dyn:List MV)(lo ba:Nat)(zm at':MV)(m ow i:Nat)(h:Bool)(K:List Itm)
theorem vS:(TS j W own f g L vs us dyn lo).H.length=b2 j 144 143:=by cases j <;>kernel_rfl
theorem SN(zl:Loc)(S:MS):(aA O (n+4) d).run dQ (.stm (d9 (dA 1))::.stm (dA 2)::jT j i) zl S=(aA O (n+3) d).run dQ (jT j i) zl S:=by cases j <;>kernel_rfl
theorem SO(zl:Loc)(S:MS):(aA O (n+4) d).run dQ (.stm (dp (dA 1))::K) zl S=(aA O (n+3) d).run dQ K zl S:=by kernel_rfl
theorem SP(zl:Loc)(S:MS):(aA O (n+4) d).run dQ (.stm (d9 (dA 2))::.stm (dA 3)::jT j i) zl S=(aA O (n+3) d).run dQ (jT j i) zl S:=by cases j <;>kernel_rfl
theorem SQ(zl:Loc)(S:MS):(aA O (n+4) d).run dQ (.stm (dp (dA 2))::K) zl S=(aA O (n+3) d).run dQ K zl S:=by kernel_rfl
theorem SR(S:MS)(tl:Loc):(aA O (n+8) d).run dQ (.stm (dp (dA 3))::.stm []::K) (er j at' ow zm h tl) S=(aA O (n+5) d).run dQ K (er j at' ow zm true tl) S:=by cases j <;>kernel_rfl
theorem SU(hl:vs.length < 1048576):(aA O (n+8) d).run dQ (.stm (d9 (dA 3))::.stm []::K) (er j at' ow zm h (fw (some (m,m)))) (TS j W own f g L vs us dyn lo)=(aA O (n+5) d).run dQ K (er j at' ow zm h (fw (some (m,m)))) (TS j W own f g L (vs++[.int (.ofNat m)]) us dyn (mn (b2 j 142 141) lo)):=by
 refine (dK (r:=fy vs.length (some (.none,TS j W own f g L (vs++[.int (.ofNat m)]) us dyn (mn (b2 j 142 141) lo)))) (tl:=[]) (by kernel_rfl) (by kernel_rfl) (by cases j <;>kernel_rfl)).trans ?_
 unfold fy;rw [fL hl];rfl
theorem Ww(tl:Loc)(S:MS):(aA O (n+6) d).run dQ [.stm (vQ 3)] (er j at' ow zm h tl) S=some (.tup [.ref (b2 j 142 141),.bool h],S):=by cases j <;>kernel_rfl
variable{O n d W own f g L vs us R T dyn lo ba zm at' m ow i h K}
theorem Hs(b:Bool)(S:MS):ca (some (.bool b,S))=some (b,S):=rfl
theorem SV{v:MV}(hn:bc 40 v=true)(hl:(BT W own T dyn lo ba).H.length≤aD):aL (BT W own T dyn lo ba) (some (v,BT W own T dyn aD ba))=some (v,BT W own T dyn lo ba):=cW hn hl
structure An(j:Bool)(O:aX)(W:WP)(own:Int)(f g:Nat→List Nat)(L:List MV)(dyn:List MV)(at':MV)(d:Nat):Prop where
 o547:∀d x s,O 547 d x s=none
 o349:∀d x s,O 349 d x s=none
 o566:∀d x s,O 566 d x s=none
 ov:∀n ow m vs us lo,(ow,m) ∈ lU→x1 m=false→(ow=1→at'=.int 17)→(ow=3→at'=.int 19)→(aA O (n+98) (d+12)).cal SE [.ref 122,at',.int (.ofNat m)] (TS j W own f g L vs us dyn lo)=some (.bool (x2 W m),TS j W own f g L vs us dyn lo)
theorem Ht(hO:∀d x s,O 547 d x s=none)(hp:(ow,m) ∈ lU):(aA O (n+33) (d+1)).cal Wk [wI ow,.ref 0,.int (.ofNat m)] (TS j W own f g L vs us dyn lo)=some (.bool (Hg m),TS j W own f g L vs us dyn lo):=by
 have e:(aA O (n+33) (d+1)).cal Wk [wI ow,.ref 0,.int (.ofNat m)] (TS j W own f g L vs us dyn lo)=match O 547 (d+1) [wI ow,.ref 0,.int (.ofNat m)] (TS j W own f g L vs us dyn lo)with
  |some r=>some r
  |none=>aL (TS j W own f g L vs us dyn lo) ((aA O (n+32) d).run J1 [.stm (Am 0)] (SD ow m) (TS j W own f g L vs us dyn aD)):=by kernel_rfl
 have r:(aA O (n+32) d).run J1 [.stm (Am 0)] (SD ow m) (TS j W own f g L vs us dyn aD)=some (.bool (Hg m),TS j W own f g L vs us dyn aD):=by
  rcases maZ hp with hp|hp
  ·have e1:Hg m=false:=(by decide+kernel:∀p ∈ sF,Hg p.2=false) (ow,m) hp
   rw [e1]
   refine (aP (n:=n+31) (K:=[]) (tl:=Am 1) (by kernel_rfl) (Wr O (n+22) d W own _ dyn aD 123 (ow,m) hp)).trans ?_
   cases eqB (accN W m) 1 with
   |false=>exact Ws O (n+27) d _ _ _
   |true=>
    have q:=Wt O (n+2) d W own (rk j f g L++[MO.list vs,MO.list us]) dyn aD 123 (ow,m) hp;exact q
  ·have q:=SG O (n+2) d W own (rk j f g L++[MO.list vs,MO.list us]) dyn aD 123 (ow,m) hp;exact q
 rw [e,hO,r]
 exact SV rfl (vS W own f g L vs us dyn lo ▸by cases j <;>decide)
theorem Hu(hO:∀d x s,O 547 d x s=none)(hp:(ow,m) ∈ lU):(aA O (n+36) (d+1)).tst dQ (er j at' ow zm h (fw (some (m,m)))) (TS j W own f g L vs us dyn lo) (aq (dA 1))=some (x1 m,TS j W own f g L vs us dyn lo):=by
 have a1:(aA O (n+35) (d+1)).tst dQ (er j at' ow zm h (fw (some (m,m)))) (TS j W own f g L vs us dyn lo) (aW (cY (aq (dA 1))) 0)=some (Wu m,TS j W own f g L vs us dyn lo):=Hh (j:=j) O n (d+1) W own (rk j f g L++[MO.list vs,MO.list us]) dyn lo 123 zm at' h (ow,m) hp;have a2:=Hi (j:=j) O n (d+1) W own (rk j f g L++[MO.list vs,MO.list us]) dyn lo 123 zm at' m ow h;have a3:=Ht (j:=j) (n:=n) (d:=d) (W:=W) (own:=own) (f:=f) (g:=g) (L:=L) (vs:=vs) (us:=us) (dyn:=dyn) (lo:=lo) hO hp;have a4:(aA O (n+35) (d+1)).tst dQ (er j at' ow zm h (fw (some (m,m)))) (TS j W own f g L vs us dyn lo) (aW (cY (aq (dA 1))) 1)=some (Hg m,TS j W own f g L vs us dyn lo):=a2.trans ((congrArg ca a3).trans (Hs _ _));have a5:=SH (j:=j) O n (d+1) zm at' m ow h (TS j W own f g L vs us dyn lo);rw [a5];exact Qh a1 a4
def ot(m:Nat):Bool:=aQ m sD
theorem Ao(hp:(ow,m) ∈ lU):1≤m∧m < 23∧m ∈ b2 (ot m) sD vM∧sE m=ow:=(by decide+kernel:∀p ∈ lU,1≤p.2∧p.2 < 23∧p.2 ∈ b2 (ot p.2) sD vM∧sE p.2=p.1) (ow,m) hp
def eT(O:aX)(W:WP)(own:Int)(f g:Nat→List Nat)(dyn:List MV)(zm:MV)(d:Nat)(sv:Nat→Bool)(ms:List Nat):Prop:=∀m ∈ ms,∀T lo,(BT W own T dyn lo 123).H.length≤aD→∀n,(aA O (n+25) (d+2)).cal oo [.ref 122,.int (.ofNat m),zm] (BT W own T dyn lo 123)=some (.bool (sv m),BT W own T dyn lo 123)
theorem Wx(hm:Nat.succ m < 23)(hget:aH us i=some (.int (.ofNat (Nat.succ m))))(hp:(ow,Nat.succ m) ∈ lU)(H:An j O W own f g L dyn at' d)(q:Option (Nat×Nat)):
  (aA O (n+140) (d+12)).run dQ (jT j i) (er j at' ow zm h (fw q)) (TS j W own f g L vs us dyn lo)=(aA O (n+137) (d+12)).run dQ (.stm (b2 (x1 (Nat.succ m)) (d9 (dA 1)) (dp (dA 1)))::.stm (dA 2)::jT j (i+1)) (er j at' ow zm h (fw (some (Nat.succ m,Nat.succ m)))) (TS j W own f g L vs us dyn lo):=
 ((bh (n:=n+139) (d:=d+12) (O:=O) (K:=[.stm (vQ 3)]) (body:=dA 0) (r:=b2 j 143 142) (i:=i) (vs:=us) (st:=TS j W own f g L vs us dyn lo) (by cases j <;>kernel_rfl) hget (Wq (j:=j) O (n+139) (d+12) zm at' (Nat.succ m) ow h q _)).trans (SF (j:=j) O (n+131) (d+12) W own (rk j f g L++[MO.list vs,MO.list us]) dyn lo 123 zm at' m ow h (jT j (i+1)) q (Nat.lt_of_succ_lt_succ hm))).trans
 (aP (n:=n+137) (K:=jT j (i+1)) (tl:=dA 2) (by kernel_rfl) (Hu (j:=j) (O:=O) (n:=n+101) (d:=d+11) (W:=W) (own:=own) (f:=f) (g:=g) (L:=L) (vs:=vs) (us:=us) (dyn:=dyn) (lo:=lo) (zm:=zm) (at':=at') (h:=h) H.o547 hp))
theorem Wy(H:An j O W own f g L dyn at' d)(hp:(ow,m) ∈ lU)(h17:ow=1→at'=.int 17)(h19:ow=3→at'=.int 19)(hx1:x1 m=false):
  (aA O (n+137) (d+12)).run dQ (.stm (dp (dA 1))::.stm (dA 2)::jT j i) (er j at' ow zm h (fw (some (m,m)))) (TS j W own f g L vs us dyn lo)=(aA O (n+135) (d+12)).run dQ (.stm (b2 (x2 W m) (d9 (dA 2)) (dp (dA 2)))::.stm (dA 3)::jT j i) (er j at' ow zm h (fw (some (m,m)))) (TS j W own f g L vs us dyn lo):=
 (SO O (n+133) (d+12) (.stm (dA 2)::jT j i) (er j at' ow zm h (fw (some (m,m)))) (TS j W own f g L vs us dyn lo)).trans
 (aP (n:=n+135) (K:=jT j i) (tl:=dA 3) (by kernel_rfl) ((SI (j:=j) O (n+35) (d+12) zm at' m ow h (TS j W own f g L vs us dyn lo)).trans (congrArg ca (H.ov (n+35) ow m vs us lo hp hx1 h17 h19))))
theorem Wz{sv:Nat→Bool}{ms:List Nat}(hv:eT O W own f g dyn zm (d+10) sv ms)(hm:m ∈ ms):
  (aA O (n+135) (d+12)).run dQ (.stm (dp (dA 2))::.stm (dA 3)::jT j i) (er j at' ow zm h (fw (some (m,m)))) (TS j W own f g L vs us dyn lo)=(aA O (n+133) (d+12)).run dQ (.stm (b2 (sv m) (d9 (dA 3)) (dp (dA 3)))::.stm []::jT j i) (er j at' ow zm h (fw (some (m,m)))) (TS j W own f g L vs us dyn lo):=
 (SQ O (n+131) (d+12) (.stm (dA 3)::jT j i) (er j at' ow zm h (fw (some (m,m)))) (TS j W own f g L vs us dyn lo)).trans
 (aP (n:=n+133) (K:=jT j i) (tl:=[]) (by kernel_rfl) ((SJ (j:=j) O (n+103) (d+12) zm at' m ow h (TS j W own f g L vs us dyn lo)).trans (congrArg ca (hv _ hm (rk j f g L++[MO.list vs,MO.list us]) lo (vS W own f g L vs us dyn lo ▸by cases j <;>decide) (n+106)))))
theorem vU{sv:Nat→Bool}{ms:List Nat}(hv:eT O W own f g dyn zm (d+10) sv ms)(hm:Nat.succ m ∈ ms)(hlt:Nat.succ m < 23)(hget:aH us i=some (.int (.ofNat (Nat.succ m))))(hp:(ow,Nat.succ m) ∈ lU)(H:An j O W own f g L dyn at' d)(h17:ow=1→at'=.int 17)(h19:ow=3→at'=.int 19)(q:Option (Nat×Nat))(hl:vs.length < 1048576):
  ∃c,130≤c∧(aA O (n+140) (d+12)).run dQ (jT j i) (er j at' ow zm h (fw q)) (TS j W own f g L vs us dyn lo)=(aA O (n+c) (d+12)).run dQ (jT j (i+1)) (er j at' ow zm (UK W sv (Nat.succ m) h) (fw (some (Nat.succ m,Nat.succ m)))) (TS j W own f g L (J2 W sv (Nat.succ m) vs) us dyn (SM W sv (Nat.succ m) (b2 j 142 141) lo)):=by
 have e0:=Wx (j:=j) (n:=n) (W:=W) (own:=own) (f:=f) (g:=g) (L:=L) (vs:=vs) (dyn:=dyn) (lo:=lo) (zm:=zm) (h:=h) hlt hget hp H q;have e1:=Wy (j:=j) (n:=n) (i:=i+1) (vs:=vs) (us:=us) (lo:=lo) (zm:=zm) (h:=h) H hp h17 h19;have e2:=Wz (j:=j) (n:=n) (i:=i+1) (L:=L) (vs:=vs) (us:=us) (lo:=lo) (at':=at') (ow:=ow) (h:=h) hv hm;unfold UK J2 SM;revert e0 e1 e2;generalize x1 (Nat.succ m)=c1;generalize x2 W (Nat.succ m)=c2;generalize sv (Nat.succ m)=c3;intro e0 e1 e2
 cases c1 with
 |true=>exact⟨136,by decide,e0.trans (SN (j:=j) O (n+133) (d+12) (i+1) _ _)⟩
 |false=>
  have e1:=e0.trans (e1 rfl)
  cases c2 with
  |true=>exact⟨134,by decide,e1.trans (SP (j:=j) O (n+131) (d+12) (i+1) _ _)⟩
  |false=>
   have e2:=e1.trans e2
   cases c3 with
   |true=>exact⟨130,lrZ _,e2.trans (SU (j:=j) O (n+125) (d+12) W own f g L vs us dyn lo zm at' (Nat.succ m) ow h (jT j (i+1)) hl)⟩
   |false=>exact⟨130,lrZ _,e2.trans (SR (j:=j) O (n+125) (d+12) zm at' ow h (jT j (i+1)) _ _)⟩
theorem zE(W:WP)(sv:Nat→Bool)(m:Nat)(vs:List MV):(J2 W sv m vs).length≤vs.length+1:=by
 unfold J2
 cases x1 m with
 |true=>exact Nat.le_succ _
 |false=>
  cases x2 W m with
  |true=>exact Nat.le_succ _
  |false=>
   cases sv m with
   |true=>exact Nat.le_of_eq (ynZ ..)
   |false=>exact Nat.le_succ _
theorem SW{a b c:Nat}(h1:c≤a)(h2:c≤b):c≤mn a b:=by
 unfold mn
 cases Nat.blt a b with
 |true=>exact h1
 |false=>exact h2
theorem Hv(W:WP)(sv:Nat→Bool)(m:Nat){c lo:Nat}(h:c≤lo):c≤SM W sv m c lo:=by
 unfold SM
 cases x1 m with
 |true=>exact h
 |false=>
  cases x2 W m with
  |true=>exact h
  |false=>
   cases sv m with
   |true=>exact SW (lrZ _) h
   |false=>exact h
theorem SX{N k:Nat}(h:14 * (k+1)+130≤N):∃n,N=n+140∧∀c,130≤c→14 * k+130≤n+c:=⟨N - 140,by lia,fun c hc=>by lia⟩
theorem SY{ms r:List Nat}{m:Nat}:∀{i:Nat},ms.drop i=m::r→aH (iL ms) i=some (.int (.ofNat m))∧m ∈ ms∧ms.drop (i+1)=r:=fun {i} h=>by
 have g:ms[i]? =some m:=by
  rw [←List.head?_drop,h];rfl
 refine⟨?_,moZ g,?_⟩
 ·unfold iL;rw [aJ,ydZ,g];rfl
 ·rw [←List.tail_drop,h];rfl
theorem zF{ms:List Nat}{sv:Nat→Bool}(hp:∀m ∈ ms,(ow,m) ∈ lU)(h17:ow=1→at'=.int 17)(h19:ow=3→at'=.int 19)(H:An j O W own f g L dyn at' d)(hv:eT O W own f g dyn zm (d+10) sv ms):
  ∀(r:List Nat) (i:Nat),ms.drop i=r→∀(N:Nat),14 * r.length+130≤N→∀(vs:List MV) (h:Bool) (lo:Nat) (q:Option (Nat×Nat)),b2 j 142 141≤lo→vs.length+r.length < 1000→
  ∃lo',b2 j 142 141≤lo'∧(aA O N (d+12)).run dQ (jT j i) (er j at' ow zm h (fw q)) (TS j W own f g L vs (iL ms) dyn lo)=some (.tup [.ref (b2 j 142 141),.bool (fG W sv r h)],TS j W own f g L (fF W sv r vs) (iL ms) dyn lo'):=by
 intro r
 induction r with
 |nil=>
  intro i hi N hN vs h lo q hlo hvs
  obtain⟨n,rfl⟩:=Nat.exists_eq_add_of_le' (leZ (by decide:7≤130) hN)
  exact⟨lo,hlo,(cR (n:=n+6) (r:=b2 j 143 142) (vs:=iL ms) (by cases j <;>kernel_rfl) (by unfold iL;rw [aJ,ydZ,yjZ (List.drop_eq_nil_iff.mp hi)];rfl)).trans (Ww (j:=j) O n (d+12) zm at' ow h _ _)⟩
 |cons m r ih=>
  intro i hi N hN vs h lo q hlo hvs;obtain⟨g1,g2,g3⟩:=SY hi;obtain⟨m1,m2,_,_⟩:=Ao (hp m g2);obtain⟨m,rfl⟩:=Nat.exists_eq_add_of_le' m1;obtain⟨n,rfl,hn⟩:=SX hN;have hvs:vs.length+1+r.length < 1000:=Nat.add_right_comm .. ▸hvs
  obtain⟨c,hc,e⟩:=vU (j:=j) (n:=n) (i:=i) (h:=h) (lo:=lo) (vs:=vs) hv g2 m2 g1 (hp _ g2) H h17 h19 q (ltZ (leZ (Nat.le_succ _) (Nat.le_add_right ..)) (Nat.lt_trans hvs (by decide)))
  obtain⟨lo',z1,z2⟩:=ih (i+1) g3 (n+c) (hn c hc) (J2 W sv (m+1) vs) (UK W sv (m+1) h) (SM W sv (m+1) (b2 j 142 141) lo) (some (m+1,m+1)) (Hv W sv _ hlo) (ltZ (Nat.add_le_add_right (zE W sv _ vs) _) hvs);exact⟨lo',z1,e.trans z2⟩
theorem rl{st0 st:MS}{r:Nat}{vs:List MV}(h:st0.H.length≤st.low):dh st0 (.tup (.ref r::vs)) st=(.tup (.ref r::vs),⟨st.H,st.dyn,st0.low,st0.bas⟩):=by
 unfold dh;rw [Nat.ble_eq_true_of_le h];rfl
theorem SZ(W:WP):∀m ∈ UJ,x2 W m=false:=ai UJ (x2 W) (fun _=>false) (by kernel_rfl)
theorem XA{a n:Nat}(h:a≤6):14 * a+130≤n+277:=by lia
theorem Hw{sv:Nat→Bool}(ho:ow < 5)(h17:ow=1→at'=.int 17)(h19:ow=3→at'=.int 19)(H:An j O W own f g L dyn at' d)(hv:eT O W own f g dyn zm (d+10) sv (dt ow)):
  (aA O (n+281) (d+13)).cal Wj [.ref 122,at',wI ow,.str (sO "f"),zm] (HS j W own f g L [] dyn lo)=some (.tup [.ref (b2 j 142 141),.bool (fG W sv (dt ow) false)],TS j W own f g L (fF W sv (dt ow) []) (iL (dt ow)) dyn lo):=by
 have hms:=(by decide+kernel:∀ow ∈ List.range 5,(∀m ∈ dt ow,(ow,m) ∈ lU)∧(dt ow).length≤6) ow (mgZ ho)
 have e:(aA O (n+281) (d+13)).cal Wj [.ref 122,at',wI ow,.str (sO "f"),zm] (HS j W own f g L [] dyn lo)=match O 566 (d+13) [.ref 122,at',wI ow,.str (sO "f"),zm] (HS j W own f g L [] dyn lo)with
  |some r=>some r
  |none=>aL (HS j W own f g L [] dyn lo) ((aA O (n+280) (d+12)).run dQ [.stm (vQ 0)] (UI at' ow zm []) (HS j W own f g L [] dyn aD)):=by kernel_rfl
 obtain⟨lo',z1,z2⟩:=zF (j:=j) (d:=d) (L:=L) (W:=W) (own:=own) (f:=f) (g:=g) (dyn:=dyn) (zm:=zm) (at':=at') hms.1 h17 h19 H hv (dt ow) 0 rfl (n+277) (XA hms.2) [] false aD none (by cases j <;>decide) (ltZ (Nat.le_of_eq (Nat.zero_add _)) (ltZ hms.2 (by decide)))
 have r:(aA O (n+280) (d+12)).run dQ [.stm (vQ 0)] (UI at' ow zm []) (HS j W own f g L [] dyn aD)=some (.tup [.ref (b2 j 142 141),.bool (fG W sv (dt ow) false)],TS j W own f g L (fF W sv (dt ow) []) (iL (dt ow)) dyn lo'):=
  (Wm (j:=j) O (n+200) (d+12) W own f g L dyn aD zm at' ow).trans ((eN (n:=n+277) (tl:=vQ 3) (by kernel_rfl) ((Wp (j:=j) O (n+273) (d+12) W own f g L [.list []] dyn aD zm at' ow false ho).trans ((congrArg vB (Wo (j:=j) O (n+205) (d+11) W own f g L dyn aD ow H.o349 ho)).trans (by cases j <;>kernel_rfl)))).trans z2)
 rw [e,H.o566,r]
 exact congrArg some (rl (by rw [show (HS j W own f g L [] dyn lo).H.length=b2 j 142 141 by cases j <;>kernel_rfl];exact z1))
theorem Sa(W:WP)(own:Int)(f g:Nat→List Nat)(L:List MV)(dyn:List MV)(at':MV)(d:Nat):An j (OA W) W own f g L dyn at' d:=by
 refine⟨Hm W,Ho W,Hn W,fun n ow m vs us lo hp h1 h17 h19=>?_⟩
 rcases (by decide+kernel:∀p ∈ lU,p.2 ∈ UJ∨x1 p.2=true∨p=(1,8)∨p=(3,14)) (ow,m) hp with q|q|q|q
 ·exact (SK (j:=j) n (d+11) W own f g L vs dyn lo at' us m q).trans (congrArg (fun b=>some (MV.bool b,TS j W own f g L vs us dyn lo)) (SZ W m q).symm)
 ·exact nomatch q.symm.trans h1
 ·cases q;rw [h17 rfl];exact Wv (j:=j) n d W own f g L vs dyn lo us
 ·cases q;rw [h19 rfl];exact SL (j:=j) n d W own f g L vs dyn lo us
end
noncomputable abbrev RD:=Nat×Nat×Bool×Bool×Bool
noncomputable def aK(W:WP):List RD:=[(0,0,false,true,false),(1,0,false,true,false),(2,0,false,true,false),(3,0,true,true,false),(4,0,false,true,false),(5,0,false,false,false),(6,1,false,true,false),(7,1,false,!W.b1,false),(8,1,true,true,false),(9,1,false,false,false),(10,2,false,true,true),(11,2,false,true,false),(12,2,true,true,false),(13,3,false,false,false),(14,3,false,true,false),(15,3,false,true,false),(16,3,false,false,false),(17,4,false,false,false),(18,4,false,true,false),(19,4,false,true,false),(20,4,true,true,false),(21,0,false,false,false)]
def bD(W:WP)(m ow:Nat)(s1 zp g1:Bool):MV:=bG (Nat.succ m) ow (accN W (Nat.succ m)) (b2 s1 1 0) zp (b2 g1 1 0)
def ir(W:WP)(r:RD):MV:=bD W r.1 r.2.1 r.2.2.1 r.2.2.2.1 r.2.2.2.2
theorem qU(W:WP):qB W=(aK W).map (ir W):=by kernel_rfl
noncomputable def zG:FI:=⟨996,st 186⟩
def au:Cx:=(fS (st 186)).names
def cJ(k:Nat):List Stmt:=(fB (st 186)).drop k
def XB:xpZ:=gV (cJ 11)
def dR(k:Nat):List Stmt:=(gW (cJ 11)).drop k
def lV(i:Nat):List Itm:=[.forI XB (.lst 78) i (dR 0),.stm (cJ 12)]
noncomputable def cb:MV:=.tup [.ref 73,.ref 74,.ref 75,.ref 76,.ref 77]
noncomputable def iN(n:Nat):MV:=.int (.ofNat n)
def ce(a ow pl fo x:Nat)(tl:Loc):Loc:=(sO "cx",.ref 122)::(sO "world",cb)::(sO "methods",.ref 78)::(sO "asker",iN a)::(sO "owner",iN ow)::(sO "place",iN pl)::(sO "form",iN fo)::(sO "x",iN x)::tl
def eU(tl:Loc):Loc:=(sO "asms",.ref 73)::(sO "kept",.ref 74)::(sO "bases",.ref 75)::(sO "homes",.ref 76)::(sO "kinds",.ref 77)::(sO "ups",.ref 124)::(sO "lines",.ref 132)::(sO "store",.ref 0)::tl
def Sb(zm:MV)(th:Int)(arg at':MV)(br:Bool)(tl:Loc):Loc:=(sO "through",zm)::(sO "thing",.int th)::(sO "arg",arg)::(sO "at",at')::(sO "bright",.bool br)::tl
def cX(j:Bool)(a ow pl fo x:Nat)(zm:MV)(th:Int)(arg at':MV)(br h:Bool)(tl:Loc):Loc:=ce a ow pl fo x (eU (Sb zm th arg at' br ((sO "those",.ref (b2 j 141 140))::(sO "hidden",.bool h)::tl)))
def jo(q:Option (MV×Option (Bool×MV×Bool))):Loc:=match q with
 |none=>[]
 |some (r,none)=>[(sO "row",r)]
 |some (r,some (s,mr,t))=>[(sO "row",r),(sO "sees",.bool s),(sO "mref",mr),(sO "told",.bool t)]
def lW(r:MV)(s:Bool)(q:Option (MV×Bool)):Loc:=match q with
 |none=>[(sO "row",r),(sO "sees",.bool s)]
 |some (mr,t)=>[(sO "row",r),(sO "sees",.bool s),(sO "mref",mr),(sO "told",.bool t)]
def zH(r:MV)(s:Bool)(mr:MV)(q:Option Bool):Loc:=match q with
 |none=>[(sO "row",r),(sO "sees",.bool s),(sO "mref",mr)]
 |some t=>[(sO "row",r),(sO "sees",.bool s),(sO "mref",mr),(sO "told",.bool t)]
noncomputable def UL(q:Option (MV×Option (Bool×MV×Bool))):Option (Bool×MV×Bool):=match q with
 |none=>none
 |some (_,p)=>p
def nX(at' arg:MV)(m:Nat)(g1:Bool):MV:=.tup [at',iN (Nat.succ m),.tup (b2 g1 [arg] [])]
section
variable(O:aX)(n D:Nat)(S:MS)(a ow pl fo x:Nat)(zm:MV)(th:Int)(arg at':MV)(br h:Bool)(tl:Loc)(W:WP)(m ow' i:Nat)(s1 zp g1 s t:Bool)(r mr:MV)(K:List Itm)(zo:Int)
theorem Sd(q:Option (MV×Option (Bool×MV×Bool))):bL (aA O n D) au (cX j a ow pl fo x zm th arg at' br h (jo q)) S XB r=some (cX j a ow pl fo x zm th arg at' br h (jo (some (r,UL q))),S):=by
 rcases q with _|⟨r,_|⟨s,mr,t⟩⟩ <;>cases j <;>kernel_rfl
theorem Ap(q:Option (Bool×MV×Bool)):(aA O (n+8) D).tst au (cX j a ow pl fo x zm th arg at' br h (jo (some (bD W m ow' s1 zp g1,q)))) S (aq (dR 0))=some (!(eqB (.ofNat ow') (.ofNat ow)),S):=by
 rcases q with _|⟨s,mr,t⟩ <;>cases j <;>kernel_rfl
theorem Se(zl:Loc):(aA O (n+4) D).run au (.stm (d9 (dR 0))::.stm (dR 1)::lV i) zl S=(aA O (n+3) D).run au (lV i) zl S:=by kernel_rfl
theorem Sf(zl:Loc):(aA O (n+4) D).run au (.stm (dp (dR 0))::K) zl S=(aA O (n+3) D).run au K zl S:=by kernel_rfl
theorem Sg(q:Option (Bool×MV×Bool)):(aA O (n+6) D).ev au (cX j a ow pl fo x zm th arg at' br h (jo (some (r,q)))) S (bY (dR 1))=(aA O (n+5) D).cal UH [.ref 124,.ref 132,.ref 73,iN a,r,.int th] S:=by
 rcases q with _|⟨s,mr,t⟩ <;>cases j <;>kernel_rfl
theorem Si(q:Option (Bool×MV×Bool)):bL (aA O n D) au (cX j a ow pl fo x zm th arg at' br h (jo (some (r,q)))) S (dj (dR 1)) (.bool s)=some (cX j a ow pl fo x zm th arg at' br h (lW r s (q.map (·.2))),S):=by
 rcases q with _|⟨s,mr,t⟩ <;>cases j <;>kernel_rfl
theorem Sj(q:Option (MV×Bool)):(aA O (n+7) D).tst au (cX j a ow pl fo x zm th arg at' br h (lW (bD W m ow' s1 zp g1) s q)) S (aq (dR 2))=J0 .NotEq ((aA O (n+5) D).cal oo [.ref 122,iN (Nat.succ m),zm] S) (fun st=>some (.bool s,st)):=by
 rcases q with _|⟨mr,t⟩ <;>cases j <;>kernel_rfl
theorem Sk(zl:Loc):(aA O (n+4) D).run au (.stm (dp (dR 2))::K) zl S=(aA O (n+3) D).run au K zl S:=by kernel_rfl
theorem Sl(q:Option (MV×Bool)):(aA O (n+9) D).tst au (cX j a ow pl fo x zm th arg at' br h (lW (bD W m ow' s1 zp g1) s q)) S (aq (dR 3))=some (b2 zp s false,S):=by
 rcases q with _|⟨mr,t⟩
 ·exact ai bs3 (fun p=>(aA O (n+9) D).tst au (cX p.2.2 a ow pl fo x zm th arg at' br h (lW (bD W m ow' s1 p.1 g1) p.2.1 none)) S (aq (dR 3))) (fun p=>some (b2 p.1 p.2.1 false,S)) (by kernel_rfl) (zp,s,j) (fh ..)
 ·exact ai bs3 (fun p=>(aA O (n+9) D).tst au (cX p.2.2 a ow pl fo x zm th arg at' br h (lW (bD W m ow' s1 p.1 g1) p.2.1 (some (mr,t)))) S (aq (dR 3))) (fun p=>some (b2 p.1 p.2.1 false,S)) (by kernel_rfl) (zp,s,j) (fh ..)
theorem Sm(zl:Loc):(aA O (n+4) D).run au (.stm (dp (dR 3))::K) zl S=(aA O (n+3) D).run au K zl S:=by kernel_rfl
theorem Sn(q:Option (MV×Bool)):(aA O (n+9) D).ev au (cX j a ow pl fo x zm th arg at' br h (lW (bD W m ow' s1 zp g1) s q)) S (bY (dR 4))=some (.bool (b2 h true (b2 zp (!s) false)),S):=by
 rcases q with _|⟨mr,t⟩
 ·exact ai WB (fun p=>(aA O (n+9) D).ev au (cX p.2.2.2 a ow pl fo x zm th arg at' br p.2.2.1 (lW (bD W m ow' s1 p.1 g1) p.2.1 none)) S (bY (dR 4))) (fun p=>some (.bool (b2 p.2.2.1 true (b2 p.1 (!p.2.1) false)),S)) (by kernel_rfl) (zp,s,h,j) (qF ..)
 ·exact ai WB (fun p=>(aA O (n+9) D).ev au (cX p.2.2.2 a ow pl fo x zm th arg at' br p.2.2.1 (lW (bD W m ow' s1 p.1 g1) p.2.1 (some (mr,t)))) S (bY (dR 4))) (fun p=>some (.bool (b2 p.2.2.1 true (b2 p.1 (!p.2.1) false)),S)) (by kernel_rfl) (zp,s,h,j) (qF ..)
theorem So(q:Option (MV×Bool)):bL (aA O n D) au (cX j a ow pl fo x zm th arg at' br h (lW r s q)) S (dj (dR 4)) (.bool t)=some (cX j a ow pl fo x zm th arg at' br t (lW r s q),S):=by
 rcases q with _|⟨mr,t⟩ <;>cases j <;>kernel_rfl
theorem Sp(q:Option (MV×Bool)):(aA O (n+9) D).ev au (cX j a ow pl fo x zm th arg at' br h (lW (bD W m ow' s1 zp g1) s q)) S (bY (dR 5))=some (nX at' arg m g1,S):=by
 rcases q with _|⟨mr,t⟩ <;>cases g1 <;>cases j <;>kernel_rfl
theorem Sq(q:Option (MV×Bool)):bL (aA O n D) au (cX j a ow pl fo x zm th arg at' br h (lW r s q)) S (dj (dR 5)) mr=some (cX j a ow pl fo x zm th arg at' br h (zH r s mr (q.map (·.2))),S):=by
 rcases q with _|⟨mr,t⟩ <;>cases j <;>kernel_rfl
abbrev Aq(k:Nat):xpZ:=aW (cY (bY (dR 6))) k
theorem Sr(q:Option Bool):(aA O (n+12) D).ev au (cX j a ow pl fo x zm th arg at' br h (zH r s mr q)) S (bY (dR 6))=dW (aA O (n+11) D) au (cX j a ow pl fo x zm th arg at' br h (zH r s mr q)) .And S [Aq 0,Aq 1,Aq 2]:=by
 rcases q with _|t <;>cases j <;>kernel_rfl
theorem vV(q:Option Bool):(aA O (n+11) D).ev au (cX j a ow pl fo x zm th arg at' br h (zH r s mr q)) S (Aq 0)=some (.bool s,S):=by
 rcases q with _|t <;>cases j <;>kernel_rfl
theorem vW(q:Option Bool):(aA O (n+11) D).ev au (cX j a ow pl fo x zm th arg at' br h (zH r s mr q)) S (Aq 1)=(aA O (n+10) D).cal wE [.ref 132,.ref 73,.ref 74,iN a,iN ow] S:=by
 rcases q with _|t <;>cases j <;>kernel_rfl
theorem vX(ho:ow < 5)(q:Option Bool):(aA O (n+11) D).ev au (cX j a ow pl fo x zm th arg at' br h (zH (bD W m ow' s1 zp g1) s mr q)) S (Aq 2)=some (.bool (b2 br true (b2 (!(eqB (.ofNat ow) 2)) (!g1) false)),S):=by
 rcases q with _|t
 ·exact List.map_inj_left.mp (lq 5 (F:=fun ow=>bs3.map fun p=>(aA O (n+11) D).ev au (cX p.2.2 a ow pl fo x zm th arg at' p.1 h (zH (bD W m ow' s1 zp p.2.1) s mr none)) S (Aq 2)) (G:=fun ow=>bs3.map fun p=>some (.bool (b2 p.1 true (b2 (!(eqB (.ofNat ow) 2)) (!p.2.1) false)),S)) (by kernel_rfl) ho) (br,g1,j) (fh ..)
 ·exact List.map_inj_left.mp (lq 5 (F:=fun ow=>bs3.map fun p=>(aA O (n+11) D).ev au (cX p.2.2 a ow pl fo x zm th arg at' p.1 h (zH (bD W m ow' s1 zp p.2.1) s mr (some t))) S (Aq 2)) (G:=fun ow=>bs3.map fun p=>some (.bool (b2 p.1 true (b2 (!(eqB (.ofNat ow) 2)) (!p.2.1) false)),S)) (by kernel_rfl) ho) (br,g1,j) (fh ..)
theorem Ss(q:Option Bool):bL (aA O n D) au (cX j a ow pl fo x zm th arg at' br h (zH r s mr q)) S (dj (dR 6)) (.bool t)=some (cX j a ow pl fo x zm th arg at' br h (jo (some (r,some (s,mr,t)))),S):=by
 rcases q with _|t <;>cases j <;>kernel_rfl
theorem Su:(aA O (n+9) D).tst au (cX j a ow pl fo x zm th arg at' br h (jo (some (bD W m ow' s1 zp g1,some (s,mr,t))))) S (aq (dR 7))=J0 .NotEq ((aA O (n+7) D).cal Rj [.ref 0,iN (Nat.add 64 a),mr,b2 s1 (.int (-1)) zm] S) (fun st=>some (.bool t,st)):=by
 cases s1 <;>cases j <;>kernel_rfl
theorem Sv(zl:Loc):(aA O (n+4) D).run au (.stm (dp (dR 7))::.stm []::K) zl S=(aA O (n+2) D).run au K zl S:=by kernel_rfl
theorem rm{ih:Ih}{cx:Cx}{zl:Loc}{st:MS}{e1 e2 e3:xpZ}{a b c:Bool}(h1:ih.ev cx zl st e1=some (.bool a,st))(h2:ih.ev cx zl st e2=some (.bool b,st))(h3:ih.ev cx zl st e3=some (.bool c,st)):dW ih cx zl .And st [e1,e2,e3]=some (.bool (b2 a (b2 b c false) false),st):=by
 unfold dW;rw [h1]
 cases a with
 |false=>rfl
 |true=>
  show dW ih cx zl .And st [e2,e3]=_
  rw [eK h2 (fun _=>h3)]
  cases b <;>rfl
theorem vY{x:MR}{y:Bool}(h:x=some (.bool y,S)):J0 .NotEq x (fun st=>some (.bool y,st))=some (false,S):=by
 subst h
 show (PT (.bool y) (.bool y)).map (fun c=>(c,S))=_
 cases y <;>rfl
variable(own:Int)(f g:Nat→List Nat)(L:List MV)(dyn:List MV)
theorem Sw(hl:L.length < 1048576)(q:Option (MV×Bool)):(aA O (n+8) D).run au (.stm (d9 (dR 3))::K) (cX j a ow pl fo x zm th arg at' br h (lW (bD W m ow' s1 zp g1) s q)) (HS j W own f g L [] dyn 123)=(aA O (n+6) D).run au K (cX j a ow pl fo x zm th arg at' br h (lW (bD W m ow' s1 zp g1) s q)) (HS j W own f g (L++[iN (Nat.succ m)]) [] dyn 123):=by
 have e:(aA O (n+7) D).ev au (cX j a ow pl fo x zm th arg at' br h (lW (bD W m ow' s1 zp g1) s q)) (HS j W own f g L [] dyn 123) (QW (d9 (dR 3)))=fy L.length (some (.none,HS j W own f g (L++[iN (Nat.succ m)]) [] dyn 123)):=by
  rcases q with _|⟨mr,t⟩ <;>cases j <;>kernel_rfl
 refine (dK (tl:=[]) (by kernel_rfl) (by kernel_rfl) e).trans ?_
 unfold fy;rw [fL hl];rfl
end
def lD(ow:Nat)(s nm br g1:Bool):Bool:=b2 s (b2 nm (b2 br true (b2 (!(eqB (.ofNat ow) 2)) (!g1) false)) false) false
structure vZ(j:Bool)(O:aX)(W:WP)(own:Int)(f g:Nat→List Nat)(dyn:List MV)(a ow:Nat)(zm:MV)(th:Int)(arg at':MV)(br nm:Bool)(D:Nat)(sv:Nat→Bool):Prop where
 see:∀r ∈ aK W,r.2.1=ow→∀n L,(aA O (n+61) D).cal UH [.ref 124,.ref 132,.ref 73,iN a,ir W r,.int th] (HS j W own f g L [] dyn 123)=some (.bool (sv (Nat.succ r.1)),HS j W own f g L [] dyn 123)
 mid:∀r ∈ aK W,r.2.1=ow→∀n L,(aA O (n+61) D).cal oo [.ref 122,iN (Nat.succ r.1),zm] (HS j W own f g L [] dyn 123)=some (.bool (sv (Nat.succ r.1)),HS j W own f g L [] dyn 123)
 nam:∀n L,(aA O (n+61) D).cal wE [.ref 132,.ref 73,.ref 74,iN a,iN ow] (HS j W own f g L [] dyn 123)=some (.bool nm,HS j W own f g L [] dyn 123)
 mr:∀r ∈ aK W,r.2.1=ow→∀n L,(aA O (n+61) D).cal Rj [.ref 0,iN (Nat.add 64 a),nX at' arg r.1 r.2.2.2.2,b2 r.2.2.1 (.int (-1)) zm] (HS j W own f g L [] dyn 123)=some (.bool (lD ow (sv (Nat.succ r.1)) nm br r.2.2.2.2),HS j W own f g L [] dyn 123)
def v3(ow:Nat)(sv:Nat→Bool)(r:RD)(L:List MV):List MV:=b2 (Nat.beq r.2.1 ow) (b2 (b2 r.2.2.2.1 (sv (Nat.succ r.1)) false) (L++[iN (Nat.succ r.1)]) L) L
def stH(ow:Nat)(sv:Nat→Bool)(r:RD)(h:Bool):Bool:=b2 (Nat.beq r.2.1 ow) (b2 h true (b2 r.2.2.2.1 (!(sv (Nat.succ r.1))) false)) h
def iJ(ow:Nat)(sv:Nat→Bool):List RD→List MV→List MV
 |[],L=>L
 |r::rs,L=>iJ ow sv rs (v3 ow sv r L)
def wJ(ow:Nat)(sv:Nat→Bool):List RD→Bool→Bool
 |[],h=>h
 |r::rs,h=>wJ ow sv rs (stH ow sv r h)
theorem lE(a b:Nat):eqB (.ofNat a) (.ofNat b)=Nat.beq a b:=rfl
section
variable{D:Nat}{own:Int}{f g:Nat→List Nat}{a:Nat}{zm:MV}{th:Int}{arg at':MV}{br nm:Bool}{sv:Nat→Bool}
theorem qV(A:vZ j O W own f g dyn a ow zm th arg at' br nm D sv)(ho:ow < 5){m:Nat}{s1 zp g1:Bool}(hr:(m,ow,s1,zp,g1) ∈ aK W)(n:Nat)(L:List MV)(h:Bool)(q:Option (MV×Bool))(K:List Itm):
  (aA O (n+90) D).run au (.stm (dR 4)::K) (cX j a ow pl fo x zm th arg at' br h (lW (bD W m ow s1 zp g1) (sv (Nat.succ m)) q)) (HS j W own f g L [] dyn 123)=
   (aA O (n+84) D).run au K (cX j a ow pl fo x zm th arg at' br (b2 h true (b2 zp (!(sv (Nat.succ m))) false)) (jo (some (bD W m ow s1 zp g1,some (sv (Nat.succ m),nX at' arg m g1,lD ow (sv (Nat.succ m)) nm br g1))))) (HS j W own f g L [] dyn 123):=by
 generalize hs:sv (Nat.succ m)=s;have e4:=Sn (j:=j) O (n+80) D (HS j W own f g L [] dyn 123) a ow pl fo x zm th arg at' br h W m ow s1 zp g1 s q
 have r4:=a8 (K:=K) (tl:=dR 5) (by kernel_rfl) (by kernel_rfl) e4 (So (j:=j) O (n+89) D (HS j W own f g L [] dyn 123) a ow pl fo x zm th arg at' br h s (b2 h true (b2 zp (!s) false)) (bD W m ow s1 zp g1) q)
 refine r4.trans ?_;clear r4 e4;generalize b2 h true (b2 zp (!s) false)=h';have e5:=Sp (j:=j) O (n+79) D (HS j W own f g L [] dyn 123) a ow pl fo x zm th arg at' br h' W m ow s1 zp g1 s q
 have r5:=a8 (K:=K) (tl:=dR 6) (by kernel_rfl) (by kernel_rfl) e5 (Sq (j:=j) O (n+88) D (HS j W own f g L [] dyn 123) a ow pl fo x zm th arg at' br h' s (bD W m ow s1 zp g1) (nX at' arg m g1) q)
 refine r5.trans ?_;clear r5 e5
 generalize q.map (·.2)=q'
 have e60:=vV (j:=j) O (n+76) D (HS j W own f g L [] dyn 123) a ow pl fo x zm th arg at' br h' s (bD W m ow s1 zp g1) (nX at' arg m g1) q';have e61:=vW (j:=j) O (n+76) D (HS j W own f g L [] dyn 123) a ow pl fo x zm th arg at' br h' s (bD W m ow s1 zp g1) (nX at' arg m g1) q';have e61':=A.nam (n+25) L
 rw [show n+25+61=n+76+10 from rfl]at e61'
 have e62:=vX (j:=j) O (n+76) D (HS j W own f g L [] dyn 123) a ow pl fo x zm th arg at' br h' W m ow s1 zp g1 s (nX at' arg m g1) ho q';have e6:=(Sr (j:=j) O (n+75) D (HS j W own f g L [] dyn 123) a ow pl fo x zm th arg at' br h' s (bD W m ow s1 zp g1) (nX at' arg m g1) q');have e60:=vV (j:=j) O (n+75) D (HS j W own f g L [] dyn 123) a ow pl fo x zm th arg at' br h' s (bD W m ow s1 zp g1) (nX at' arg m g1) q';have e61:=vW (j:=j) O (n+75) D (HS j W own f g L [] dyn 123) a ow pl fo x zm th arg at' br h' s (bD W m ow s1 zp g1) (nX at' arg m g1) q';have e61':=A.nam (n+24) L
 rw [show n+24+61=n+75+10 from rfl]at e61'
 have e62:=vX (j:=j) O (n+75) D (HS j W own f g L [] dyn 123) a ow pl fo x zm th arg at' br h' W m ow s1 zp g1 s (nX at' arg m g1) ho q';have e6':=e6.trans (rm e60 (e61.trans e61') e62)
 rw [show n+75+12=n+87 from rfl]at e6'
 have r6:=a8 (K:=K) (tl:=dR 7) (by kernel_rfl) (by kernel_rfl) e6' (Ss (j:=j) O (n+87) D (HS j W own f g L [] dyn 123) a ow pl fo x zm th arg at' br h' s (lD ow s nm br g1) (bD W m ow s1 zp g1) (nX at' arg m g1) q')
 refine r6.trans ?_;have q7:=A.mr _ hr rfl (n+23) L;simp only [hs]at q7;have t7:=(Su (j:=j) O (n+77) D (HS j W own f g L [] dyn 123) a ow pl fo x zm th arg at' br h' W m ow s1 zp g1 s (lD ow s nm br g1) (nX at' arg m g1)).trans (vY _ q7)
 have r7:=aP (K:=K) (tl:=[]) (by kernel_rfl) t7
 refine r7.trans ?_;have b7:=Sv O (n+82) D (HS j W own f g L [] dyn 123) K (cX j a ow pl fo x zm th arg at' br h' (jo (some (bD W m ow s1 zp g1,some (s,nX at' arg m g1,lD ow s nm br g1)))));exact b7
theorem v4(A:vZ j O W own f g dyn a ow zm th arg at' br nm D sv)(ho:ow < 5){m:Nat}{s1 zp g1:Bool}(hr:(m,ow,s1,zp,g1) ∈ aK W)(n:Nat)(L:List MV)(hL:L.length < 1048576)(h:Bool)(q:Option (Bool×MV×Bool))(i:Nat):
  ∃k,k≤14∧∀R,(aA O (n+110 - k) D).run au (lV i) (cX j a ow pl fo x zm th arg at' br (b2 h true (b2 zp (!(sv (Nat.succ m))) false)) (jo (some (bD W m ow s1 zp g1,some (sv (Nat.succ m),nX at' arg m g1,lD ow (sv (Nat.succ m)) nm br g1))))) (HS j W own f g (b2 (b2 zp (sv (Nat.succ m)) false) (L++[iN (Nat.succ m)]) L) [] dyn 123)=R→
   (aA O (n+110) D).run au (.stm (dR 0)::lV i) (cX j a ow pl fo x zm th arg at' br h (jo (some (bD W m ow s1 zp g1,q)))) (HS j W own f g L [] dyn 123)=R:=by
 have t0:=Ap (j:=j) O (n+101) D (HS j W own f g L [] dyn 123) a ow pl fo x zm th arg at' br h W m ow s1 zp g1 q
 rw [show n+101+8=n+109 from rfl,lE,Nat.beq_refl]at t0
 have r0:=aP (K:=lV i) (tl:=dR 1) (b:=false) (by kernel_rfl) t0
 have b0:=Sf O (n+105) D (HS j W own f g L [] dyn 123) (.stm (dR 1)::lV i) (cX j a ow pl fo x zm th arg at' br h (jo (some (bD W m ow s1 zp g1,q))));have e1:=(Sg (j:=j) O (n+101) D (HS j W own f g L [] dyn 123) a ow pl fo x zm th arg at' br h (bD W m ow s1 zp g1) q);have e1':=A.see _ hr rfl (n+45) L
 rw [show n+45+61=n+101+5 from rfl]at e1'
 have e1'':=e1.trans e1'
 rw [show n+101+6=n+107 from rfl]at e1''
 have r1:=a8 (K:=lV i) (tl:=dR 2) (by kernel_rfl) (by kernel_rfl) e1'' (Si (j:=j) O (n+107) D (HS j W own f g L [] dyn 123) a ow pl fo x zm th arg at' br h (sv (Nat.succ m)) (bD W m ow s1 zp g1) q)
 generalize q.map (·.2)=q1 at r1
 have t2:=(Sj (j:=j) O (n+99) D (HS j W own f g L [] dyn 123) a ow pl fo x zm th arg at' br h W m ow s1 zp g1 (sv (Nat.succ m)) q1);have t2':=A.mid _ hr rfl (n+43) L
 rw [show n+43+61=n+99+5 from rfl]at t2'
 have t2'':=t2.trans (vY _ t2')
 rw [show n+99+7=n+106 from rfl]at t2''
 have r2:=aP (K:=lV i) (tl:=dR 3) (by kernel_rfl) t2''
 have b2':=Sk O (n+102) D (HS j W own f g L [] dyn 123) (.stm (dR 3)::lV i) (cX j a ow pl fo x zm th arg at' br h (lW (bD W m ow s1 zp g1) (sv (Nat.succ m)) q1))
 rw [show n+102+4=n+106 from rfl,show n+102+3=n+105 from rfl]at b2'
 have t3:=Sl (j:=j) O (n+95) D (HS j W own f g L [] dyn 123) a ow pl fo x zm th arg at' br h W m ow s1 zp g1 (sv (Nat.succ m)) q1
 have r3:=aP (K:=lV i) (tl:=dR 4) (by kernel_rfl) t3
 have all:=r0.trans (b0.trans (r1.trans (r2.trans (b2'.trans r3))))
 cases hb:b2 zp (sv (Nat.succ m)) false with
 |true=>
  rw [hb]at all;have a3:=Sw (j:=j) O (n+96) D a ow pl fo x zm th arg at' br h W m ow s1 zp g1 (sv (Nat.succ m)) (.stm (dR 4)::lV i) own f g L dyn hL q1;have tl:=qV (pl:=pl) (fo:=fo) (x:=x) A ho hr (n+12) (L++[iN (Nat.succ m)]) h q1 (lV i)
  exact⟨14,lrZ _,fun R hR=>all.trans (a3.trans (tl.trans hR))⟩
 |false=>
  rw [hb]at all;have b3:=Sm O (n+100) D (HS j W own f g L [] dyn 123) (.stm (dR 4)::lV i) (cX j a ow pl fo x zm th arg at' br h (lW (bD W m ow s1 zp g1) (sv (Nat.succ m)) q1));have tl:=qV (pl:=pl) (fo:=fo) (x:=x) A ho hr (n+13) L h q1 (lV i)
  exact⟨13,by decide,fun R hR=>all.trans (b3.trans (tl.trans hR))⟩
end
theorem eV(W:WP):(aK W).length=22:=rfl
theorem zI(ow:Nat)(sv:Nat→Bool)(r:RD)(L:List MV):(v3 ow sv r L).length≤L.length+1:=by
 unfold v3
 cases Nat.beq r.2.1 ow with
 |false=>exact Nat.le_succ _
 |true=>
  cases b2 r.2.2.2.1 (sv (Nat.succ r.1)) false with
  |true=>show (L++[_]).length≤_;simp
  |false=>exact Nat.le_succ _
section
variable{D:Nat}{own:Int}{f g:Nat→List Nat}{a:Nat}{zm:MV}{th:Int}{arg at':MV}{br nm:Bool}{sv:Nat→Bool}
theorem zJ(A:vZ j O W own f g dyn a ow zm th arg at' br nm D sv)(ho:ow < 5){LF:List MV}{hF:Bool}{M:Nat}{RES:MR}(fin:∀N,M≤N→∀q,(aA O N D).run au [.stm (cJ 12)] (cX j a ow pl fo x zm th arg at' br hF (jo q)) (HS j W own f g LF [] dyn 123)=RES):
  ∀(k i:Nat),i+k=22→∀(N:Nat),M+16 * k+130≤N→∀(L:List MV) (h:Bool) (q:Option (MV×Option (Bool×MV×Bool))),L.length+k < 1000→iJ ow sv ((aK W).drop i) L=LF→wJ ow sv ((aK W).drop i) h=hF→
   (aA O N D).run au (lV i) (cX j a ow pl fo x zm th arg at' br h (jo q)) (HS j W own f g L [] dyn 123)=RES:=by
 intro k
 induction k with
 |zero=>
  intro i hi N hN L h q hL h1 h2
  have e:(aK W).drop i=[]:=List.drop_eq_nil_of_le (by rw [eV];lia)
  rw [e]at h1 h2;have h1:L=LF:=h1;have h2:h=hF:=h2;subst h1;subst h2
  obtain⟨n,rfl⟩:∃n,N=n+1:=⟨N - 1,by lia⟩
  have hg:aH (HS j W own f g L [] dyn 123).H 78=some (.list ((aK W).map (ir W))):=by rw [←qU];cases j <;>kernel_rfl
  exact (cR (n:=n) hg (by rw [aJ,ydZ,yjZ (by rw [eV];lia)];rfl)).trans (fin n (by lia) q)
 |succ k ih=>
  intro i hi N hN L h q hL h1 h2
  have hil:i < (aK W).length:=by rw [eV];lia
  have ed:(aK W).drop i=(aK W)[i]::(aK W).drop (i+1):=List.drop_eq_getElem_cons hil;have hm:=List.getElem_mem hil
  have hget:aH ((aK W).map (ir W)) i=some (ir W (aK W)[i]):=by rw [aJ,ydZ,yiZ hil];rfl
  rw [ed]at h1 h2;generalize (aK W)[i]=r at hm hget h1 h2;have h1:iJ ow sv ((aK W).drop (i+1)) (v3 ow sv r L)=LF:=h1;have h2:wJ ow sv ((aK W).drop (i+1)) (stH ow sv r h)=hF:=h2
  obtain⟨n,rfl⟩:∃n,N=n+111:=⟨N - 111,by lia⟩
  have hg:aH (HS j W own f g L [] dyn 123).H 78=some (.list ((aK W).map (ir W))):=by rw [←qU];cases j <;>kernel_rfl
  have r0:=bh (O:=O) (n:=n+110) (d:=D) (cx:=au) (x:=XB) (K:=[.stm (cJ 12)]) (body:=dR 0) hg hget (Sd (j:=j) O (n+110) D (HS j W own f g L [] dyn 123) a ow pl fo x zm th arg at' br h (ir W r) q);refine r0.trans ?_;obtain⟨m,ow',s1,zp,g1⟩:=r;have zr:=zI ow sv (m,ow',s1,zp,g1) L
  cases hb:Nat.beq ow' ow with
  |true=>
   have:=ebZ hb;subst this
   have eL:v3 ow' sv (m,ow',s1,zp,g1) L=b2 (b2 zp (sv (Nat.succ m)) false) (L++[iN (Nat.succ m)]) L:=by unfold v3;simp only [Nat.beq_refl];rfl
   have eH:stH ow' sv (m,ow',s1,zp,g1) h=b2 h true (b2 zp (!(sv (Nat.succ m))) false):=by unfold stH;simp only [Nat.beq_refl];rfl
   obtain⟨c,hc,hr⟩:=v4 (pl:=pl) (fo:=fo) (x:=x) A ho hm n L (by lia) h (UL q) (i+1)
   rw [eL]at h1 zr;rw [eH]at h2
   exact hr RES (ih (i+1) (by lia) (n+110 - c) (by lia) _ _ _ (by lia) h1 h2)
  |false=>
   have eL:v3 ow sv (m,ow',s1,zp,g1) L=L:=by unfold v3;rw [hb];rfl
   have eH:stH ow sv (m,ow',s1,zp,g1) h=h:=by unfold stH;rw [hb];rfl
   rw [eL]at h1 zr;rw [eH]at h2;have t0:=Ap (j:=j) O (n+101) D (HS j W own f g L [] dyn 123) a ow pl fo x zm th arg at' br h W m ow' s1 zp g1 (UL q)
   rw [show n+101+8=n+109 from rfl,lE,hb]at t0
   have r1:=aP (K:=lV (i+1)) (tl:=dR 1) (b:=true) (by kernel_rfl) t0
   have a0:=Se O (n+105) D (HS j W own f g L [] dyn 123) (i+1) (cX j a ow pl fo x zm th arg at' br h (jo (some (bD W m ow' s1 zp g1,UL q))))
   exact r1.trans (a0.trans (ih (i+1) (by lia) (n+108) (by lia) L h _ (by lia) h1 h2))
end
def pq(a b:Option Bool):Option Bool:=ob a fun p=>ob b fun q=>some (an p q)
theorem nQ:∀(l:List Nat) (n:Nat),l.length < n→ec n (.tup (iL l)) (.tup (iL l))=some true
 |_,0,h=>absurd h (by lia)
 |[],n+1,_=>rfl
 |x::r,n+1,h=>by
  have hr:=nQ r n (by simp only [List.length_cons]at h;lia)
  obtain⟨n,rfl⟩:∃k,n=k+1:=⟨n - 1,by simp only [List.length_cons]at h;lia⟩
  have e:ec (n+1) (.int (.ofNat x)) (.int (.ofNat x))=some true:=by
   show some (eqB (.ofNat x) (.ofNat x))=_
   rw [lE,Nat.beq_refl]
  show ob (ec (n+1) (.int (.ofNat x)) (.int (.ofNat x))) (fun p=>ob (ec (n+1) (.tup (iL r)) (.tup (iL r))) fun q=>some (an p q))=_
  rw [e,hr];rfl
section
variable(O:aX)(n D:Nat)(W:WP)(own:Int)(f g:Nat→List Nat)(L vs us:List MV)(dyn:List MV)(lo:Nat)(a ow pl fo x:Nat)(zm:MV)(th:Int)(arg at':MV)(br h:Bool)
theorem zK(e:bP (.tup vs) (.tup L)=some true):ck (TS j W own f g L vs us dyn lo) .Eq (.tup [.ref (b2 j 142 141),.bool h]) (.tup [.ref (b2 j 141 140),.bool h])=some true:=by
 have q:ck (TS j W own f g L vs us dyn lo) .Eq (.tup [.ref (b2 j 142 141),.bool h]) (.tup [.ref (b2 j 141 140),.bool h])=pq (bP (.tup vs) (.tup L)) (some true):=by
  cases h <;>cases j <;>kernel_rfl
 rw [q,e];rfl
theorem Hx(ho:ow < 5)(q:Option (MV×Option (Bool×MV×Bool))):(aA O (n+9) D).ev au (cX j a ow pl fo x zm th arg at' br h (jo q)) (HS j W own f g L [] dyn lo) (iz (cJ 12))=RU .Eq ((aA O (n+7) D).cal Wj [.ref 122,at',wI ow,.str (sO "f"),zm] (HS j W own f g L [] dyn lo)) (fun st=>some (.tup [.ref (b2 j 141 140),.bool h],st)):=by
 rcases q with _|⟨r,_|⟨s,mr,t⟩⟩ <;>(revert ow;revert j;apply Ad 5;kernel_rfl)
end
theorem zL(W:WP)(sv:Nat→Bool):∀ow,ow < 5→fF W sv (dt ow) []=iJ ow sv (aK W) []:=
 c5 (allB (fun b1=>fF {W with b1:=b1} sv (dt 0) []) (fun b1=>iJ 0 sv (aK {W with b1:=b1}) []) (by kernel_rfl) W.b1) (allB (fun b1=>fF {W with b1:=b1} sv (dt 1) []) (fun b1=>iJ 1 sv (aK {W with b1:=b1}) []) (by kernel_rfl) W.b1) (allB (fun b1=>fF {W with b1:=b1} sv (dt 2) []) (fun b1=>iJ 2 sv (aK {W with b1:=b1}) []) (by kernel_rfl) W.b1) (allB (fun b1=>fF {W with b1:=b1} sv (dt 3) []) (fun b1=>iJ 3 sv (aK {W with b1:=b1}) []) (by kernel_rfl) W.b1) (allB (fun b1=>fF {W with b1:=b1} sv (dt 4) []) (fun b1=>iJ 4 sv (aK {W with b1:=b1}) []) (by kernel_rfl) W.b1)
def zM(ow:Nat)(sv:Nat→Bool):List RD→Bool→Bool
 |[],h=>h
 |r::rs,h=>zM ow sv rs (b2 (Nat.beq r.2.1 ow) (b2 r.2.2.2.1 (b2 (sv (Nat.succ r.1)) h true) h) h)
theorem Sx(ow:Nat)(sv:Nat→Bool)(r:RD)(h:Bool):stH ow sv r h=b2 (Nat.beq r.2.1 ow) (b2 r.2.2.2.1 (b2 (sv (Nat.succ r.1)) h true) h) h:=by
 unfold stH
 cases Nat.beq r.2.1 ow <;>cases r.2.2.2.1 <;>cases sv (Nat.succ r.1) <;>cases h <;>rfl
theorem Sy(ow:Nat)(sv:Nat→Bool)(rs:List RD):∀h:Bool,wJ ow sv rs h=zM ow sv rs h:=by
 induction rs with
 |nil=>exact fun _=>rfl
 |cons r rs ih=>exact fun h=>(ih _).trans (congrArg (zM ow sv rs) (Sx ow sv r h))
theorem v5(W:WP)(sv:Nat→Bool):∀ow,ow < 5→fG W sv (dt ow) false=zM ow sv (aK W) false:=
 c5 (allB (fun b1=>fG {W with b1:=b1} sv (dt 0) false) (fun b1=>zM 0 sv (aK {W with b1:=b1}) false) (by kernel_rfl) W.b1) (allB (fun b1=>fG {W with b1:=b1} sv (dt 1) false) (fun b1=>zM 1 sv (aK {W with b1:=b1}) false) (by kernel_rfl) W.b1) (allB (fun b1=>fG {W with b1:=b1} sv (dt 2) false) (fun b1=>zM 2 sv (aK {W with b1:=b1}) false) (by kernel_rfl) W.b1) (allB (fun b1=>fG {W with b1:=b1} sv (dt 3) false) (fun b1=>zM 3 sv (aK {W with b1:=b1}) false) (by kernel_rfl) W.b1) (allB (fun b1=>fG {W with b1:=b1} sv (dt 4) false) (fun b1=>zM 4 sv (aK {W with b1:=b1}) false) (by kernel_rfl) W.b1)
theorem v6(ow:Nat)(sv:Nat→Bool):∀(rs:List RD) (l:List Nat),∃l',iJ ow sv rs (iL l)=iL l'∧l'.length≤l.length+rs.length
 |[],l=>⟨l,rfl,lrZ _⟩
 |r::rs,l=>by
  have:∃l1,v3 ow sv r (iL l)=iL l1∧l1.length≤l.length+1:=by
   unfold v3
   cases Nat.beq r.2.1 ow with
   |false=>exact⟨l,rfl,Nat.le_succ _⟩
   |true=>
    cases b2 r.2.2.2.1 (sv (Nat.succ r.1)) false with
    |true=>exact⟨l++[Nat.succ r.1],by unfold iL;rw [List.map_append];rfl,by simp⟩
    |false=>exact⟨l,rfl,Nat.le_succ _⟩
  obtain⟨l1,e1,e2⟩:=this;obtain⟨l2,e3,e4⟩:=v6 ow sv rs l1
  exact⟨l2,by show iJ ow sv rs (v3 ow sv r (iL l))=_;rw [e1,e3],by simp only [List.length_cons];lia⟩
theorem Hy{j:Bool}{O:aX}{d:Nat}{W:WP}{own:Int}{f g:Nat→List Nat}{dyn:List MV}{a ow pl fo x:Nat}{zm:MV}{th:Int}{arg at':MV}{br:Bool}{sv:Nat→Bool}(ho:ow < 5)(h17:ow=1→at'=.int 17)(h19:ow=3→at'=.int 19)
  (H:∀L,An j O W own f g L dyn at' d) (hv:eT O W own f g dyn zm (d+10) sv (dt ow)) (N:Nat) (hN:300≤N) (q:Option (MV×Option (Bool×MV×Bool))):
  (aA O N (d+13)).run au [.stm (cJ 12)] (cX j a ow pl fo x zm th arg at' br (wJ ow sv (aK W) false) (jo q)) (HS j W own f g (iJ ow sv (aK W) []) [] dyn 123)=some (.bool true,TS j W own f g (iJ ow sv (aK W) []) (iJ ow sv (aK W) []) (iL (dt ow)) dyn 123):=by
 obtain⟨n,rfl⟩:∃n,N=n+300:=⟨N - 300,by lia⟩
 obtain⟨l,e1,e2⟩:=v6 ow sv (aK W) [];have e1:iJ ow sv (aK W) []=iL l:=e1;have c:=Hw (j:=j) (n:=n+16) (lo:=123) ho h17 h19 (H (iJ ow sv (aK W) [])) hv;rw [zL W sv _ ho,v5 W sv _ ho,←Sy]at c;have e:=Hx (j:=j) O (n+290) (d+13) W own f g (iJ ow sv (aK W) []) dyn 123 a ow pl fo x zm th arg at' br (wJ ow sv (aK W) false) ho q
 rw [show n+290+9=n+299 from rfl,c]at e
 have z:=zK (j:=j) W own f g (iJ ow sv (aK W) []) (iJ ow sv (aK W) []) (iL (dt ow)) dyn 123 (wJ ow sv (aK W) false) (by rw [e1];exact nQ l 40 (by have:=eV W;simp only [List.length_nil]at e2;lia))
 have r:=iG (O:=O) (n:=n+299) (d:=d+13) (cx:=au) (tl:=[]) (K:=[]) (zl:=cX j a ow pl fo x zm th arg at' br (wJ ow sv (aK W) false) (jo q)) (st:=HS j W own f g (iJ ow sv (aK W) []) [] dyn 123) (ss:=cJ 12) (by kernel_rfl)
 refine r.trans (e.trans ?_)
 show (ck (TS j W own f g (iJ ow sv (aK W) []) (iJ ow sv (aK W) []) (iL (dt ow)) dyn 123) .Eq (.tup [.ref (b2 j 142 141),.bool (wJ ow sv (aK W) false)]) (.tup [.ref (b2 j 141 140),.bool (wJ ow sv (aK W) false)])).map (fun c=>(MV.bool c,TS j W own f g (iJ ow sv (aK W) []) (iJ ow sv (aK W) []) (iL (dt ow)) dyn 123))=_
 rw [z];rfl
noncomputable def Sz:FI:=⟨989,st 185⟩
noncomputable def wL:FI:=⟨146,st 51⟩
noncomputable def lX(p:Nat):Int:=match p with
 |0=>16
 |1=>17
 |2=>18
 |3=>19
 |4=>21
 |5=>22
 |_=>23
def sG(p fo:Nat):MV:=match fo with
 |0=>.int (lX p)
 |5=>.int 14
 |6=>.int (-1)
 |8=>.int 13
 |_=>.kd 0
noncomputable def Hz(p fo:Nat):Int:=match fo with
 |3=>4
 |5=> -1
 |6=> -1
 |7=> -2
 |8=> -2
 |_=>.ofNat p
def iK(p fo:Nat):List MV:=match fo with
 |1=>[.tup [.int 5,.int (lX p)]]
 |2=>[.tup [.int 9,.int (lX p)]]
 |3=>[.tup [.int 8,.int 21]]
 |4=>[.tup [.int 11,.int (lX p)]]
 |7=>[.tup [.int 4,.int (lX p)]]
 |_=>[]
def eW(x:Nat):Int:=match x with
 |7=>9
 |8=>13
 |x=>lX x
def df(ow x:Nat)(dyn:List MV):MV:=match ow,x with
 |2,7=>.int 18
 |2,_=>.kd dyn.length
 |ow,_=>.int (lX ow)
def bz(ow x:Nat)(dyn:List MV):List MV:=match ow,x with
 |2,7=>dyn
 |2,x=>dyn++[.tup [.int 2,.int 66,.tup [.int (eW x)]]]
 |_,_=>dyn
def B3(j:Bool)(W:WP)(own:Int)(dyn:List MV)(f g:Nat→List Nat)(lo:Nat):MS:=⟨eq W own++g6 124 f++g6 132 g++b2 j [.list [.int 9,.int 13]] [],dyn,lo,lo⟩
def L0(tl:Loc):Loc:=(sO "asms",.ref 73)::(sO "kept",.ref 74)::(sO "bases",.ref 75)::(sO "homes",.ref 76)::(sO "kinds",.ref 77)::tl
theorem IA(W:WP)(own:Int)(f g:Nat→List Nat)(n d:Nat){p fo:Nat}(hp:p < 7)(hf:fo < 9):(aA (OA W) (n+41) (d+12)).cal Sz [.ref 2,.ref 77,iN p,iN fo] (A3 W own [] f g)=some (.tup [sG p fo,.int (Hz p fo)],A3 W own (iK p fo) f g):=
 ai (uj (List.range 7) (List.range 9)) (fun q=>(aA (OA W) (n+41) (d+12)).cal Sz [.ref 2,.ref 77,iN q.1,iN q.2] (A3 W own [] f g)) (fun q=>some (.tup [sG q.1 q.2,.int (Hz q.1 q.2)],A3 W own (iK q.1 q.2) f g)) (by kernel_rfl) (p,fo) (bu (mgZ hp) (mgZ hf))
noncomputable def TA(k:Int):List (List MV):=[[],[.tup [.int 5,.int k]],[.tup [.int 9,.int k]],[.tup [.int 8,.int k]],[.tup [.int 11,.int k]],[.tup [.int 4,.int k]]]
theorem IB(W:WP)(own:Int)(f g:Nat→List Nat)(n d:Nat)(k:Int){x:Nat}(hx:x < 9)(dyn:List MV)(hd:dyn ∈ TA k):(aA (OA W) (n+31) (d+12)).cal wL [.ref 2,.int 66,.tup [.int (eW x)]] (B3 (Nat.blt 6 x) W own dyn f g aD)=some (df 2 x dyn,B3 (Nat.blt 6 x) W own (bz 2 x dyn) f g aD):=
 (List.map_inj_left.mp (ai (List.range 9) (fun x=>(TA k).map fun dyn=>(aA (OA W) (n+31) (d+12)).cal wL [.ref 2,.int 66,.tup [.int (eW x)]] (B3 (Nat.blt 6 x) W own dyn f g aD)) (fun x=>(TA k).map fun dyn=>some (df 2 x dyn,B3 (Nat.blt 6 x) W own (bz 2 x dyn) f g aD)) (by kernel_rfl) x (mgZ hx)) dyn hd)
theorem TB(p:Nat):∀fo ∈ List.range 8,∃k,iK p fo ∈ TA k:=by
 refine fcZ ⟨⟨0,.head _⟩,?_⟩;refine fcZ ⟨⟨lX p,.tail _ (.head _)⟩,?_⟩;refine fcZ ⟨⟨lX p,.tail _ (.tail _ (.head _))⟩,?_⟩;refine fcZ ⟨⟨21,.tail _ (.tail _ (.tail _ (.head _)))⟩,?_⟩;refine fcZ ⟨⟨lX p,.tail _ (.tail _ (.tail _ (.tail _ (.head _))))⟩,?_⟩;refine fcZ ⟨⟨0,.head _⟩,?_⟩;refine fcZ ⟨⟨0,.head _⟩,?_⟩
 refine fcZ ⟨⟨lX p,.tail _ (.tail _ (.tail _ (.tail _ (.tail _ (.head _)))))⟩,fun _ h=>nomatch h⟩
theorem zN(p fo:Nat):∃k,iK p fo ∈ TA k:=by
 by_cases h:fo < 8
 ·exact TB p fo (mgZ h)
 ·obtain⟨k,rfl⟩:=Nat.exists_eq_add_of_le' (Nat.not_lt.mp h);exact⟨0,.head _⟩
section
variable(O:aX)(n D:Nat)(S:MS)(a ow pl fo x:Nat)(zm:MV)(th:Int)(arg at':MV)(br:Bool)(W:WP)(own:Int)(f g:Nat→List Nat)(dyn:List MV)
theorem i0:(aA O (n+4) D).run au [.stm (cJ 0)] (ce a ow pl fo x []) S=(aA O (n+3) D).run au [.stm (cJ 1)] (ce a ow pl fo x (L0 [])) S:=by kernel_rfl
theorem i1e:(aA O (n+6) D).ev au (ce a ow pl fo x (L0 [])) S (bY (cJ 1))=(aA O (n+5) D).cal sC [.ref 75] S:=by kernel_rfl
theorem i1a:bL (aA O n D) au (ce a ow pl fo x (L0 [])) S (dj (cJ 1)) (.ref 124)=some (ce a ow pl fo x (L0 [(sO "ups",.ref 124)]),S):=by kernel_rfl
theorem i2e:(aA O (n+6) D).ev au (ce a ow pl fo x (L0 [(sO "ups",.ref 124)])) S (bY (cJ 2))=(aA O (n+5) D).cal sC [.ref 76] S:=by kernel_rfl
theorem i2a:bL (aA O n D) au (ce a ow pl fo x (L0 [(sO "ups",.ref 124)])) S (dj (cJ 2)) (.ref 132)=some (ce a ow pl fo x (L0 [(sO "ups",.ref 124),(sO "lines",.ref 132)]),S):=by kernel_rfl
theorem i3:(aA O (n+8) D).run au [.stm (cJ 3)] (ce a ow pl fo x (L0 [(sO "ups",.ref 124),(sO "lines",.ref 132)])) (A3 W own dyn f g)=(aA O (n+7) D).run au [.stm (cJ 4)] (ce a ow pl fo x (eU [])) (A3 W own dyn f g):=by kernel_rfl
theorem i4e:(aA O (n+8) D).ev au (ce a ow pl fo x (eU [])) (A3 W own dyn f g) (bY (cJ 4))=(aA O (n+7) D).cal Sz [.ref 2,.ref 77,iN pl,iN fo] (A3 W own dyn f g):=by kernel_rfl
theorem i4a:bL (aA O n D) au (ce a ow pl fo x (eU [])) S (dj (cJ 4)) (.tup [zm,.int th])=some (ce a ow pl fo x (eU [(sO "through",zm),(sO "thing",.int th)]),S):=by kernel_rfl
theorem i5t(hx:x < 9)(tl:List Stmt):(aA O (n+12) D).run au [.stm (fD (cJ 5)::tl)] (ce a ow pl fo x (eU [(sO "through",zm),(sO "thing",.int th)])) (A3 W own dyn f g)=(aA O (n+11) D).run au [.stm tl] (ce a ow pl fo x (eU [(sO "through",zm),(sO "thing",.int th),(sO "arg",.int (eW x))])) (B3 (Nat.blt 6 x) W own dyn f g aD):=
 (by revert x;apply lR 9;kernel_rfl)
theorem i5(hx:x < 9):(aA O (n+12) D).run au [.stm (cJ 5)] (ce a ow pl fo x (eU [(sO "through",zm),(sO "thing",.int th)])) (A3 W own dyn f g)=(aA O (n+11) D).run au [.stm (cJ 6)] (ce a ow pl fo x (eU [(sO "through",zm),(sO "thing",.int th),(sO "arg",.int (eW x))])) (B3 (Nat.blt 6 x) W own dyn f g aD):=
 (congrArg (fun s=>(aA O (n+12) D).run au [.stm s] (ce a ow pl fo x (eU [(sO "through",zm),(sO "thing",.int th)])) (A3 W own dyn f g)) (by kernel_rfl:cJ 5=fD (cJ 5)::cJ 6)).trans (i5t O n D a ow pl fo x zm th W own f g dyn hx (cJ 6))
theorem i6t(tl:List Stmt)(j:Bool):∀ow ∈ [0,1,3,4],(aA O (n+12) D).run au [.stm (fD (cJ 6)::tl)] (ce a ow pl fo x (eU [(sO "through",zm),(sO "thing",.int th),(sO "arg",arg)])) (B3 j W own dyn f g aD)=(aA O (n+11) D).run au [.stm tl] (ce a ow pl fo x (eU [(sO "through",zm),(sO "thing",.int th),(sO "arg",arg),(sO "at",.int (lX ow))])) (B3 j W own dyn f g aD):=
 ai [0,1,3,4] (fun ow=>(aA O (n+12) D).run au [.stm (fD (cJ 6)::tl)] (ce a ow pl fo x (eU [(sO "through",zm),(sO "thing",.int th),(sO "arg",arg)])) (B3 j W own dyn f g aD)) (fun ow=>(aA O (n+11) D).run au [.stm tl] (ce a ow pl fo x (eU [(sO "through",zm),(sO "thing",.int th),(sO "arg",arg),(sO "at",.int (lX ow))])) (B3 j W own dyn f g aD)) ((by revert j;apply allB;kernel_rfl))
theorem UM{j:Bool}(ho:ow ∈ [0,1,3,4]):(aA O (n+12) D).run au [.stm (cJ 6)] (ce a ow pl fo x (eU [(sO "through",zm),(sO "thing",.int th),(sO "arg",arg)])) (B3 j W own dyn f g aD)=(aA O (n+11) D).run au [.stm (cJ 7)] (ce a ow pl fo x (eU [(sO "through",zm),(sO "thing",.int th),(sO "arg",arg),(sO "at",.int (lX ow))])) (B3 j W own dyn f g aD):=
 (congrArg (fun s=>(aA O (n+12) D).run au [.stm s] (ce a ow pl fo x (eU [(sO "through",zm),(sO "thing",.int th),(sO "arg",arg)])) (B3 j W own dyn f g aD)) (by kernel_rfl:cJ 6=fD (cJ 6)::cJ 7)).trans (i6t O n D a pl fo x zm th arg W own f g dyn (cJ 7) j ow ho)
theorem i6e{j:Bool}:(aA O (n+12) D).ev au (ce a 2 pl fo x (eU [(sO "through",zm),(sO "thing",.int th),(sO "arg",arg)])) (B3 j W own dyn f g aD) (bY (cJ 6))=(aA O (n+10) D).cal wL [.ref 2,.int 66,.tup [arg]] (B3 j W own dyn f g aD):=by
 cases j <;>kernel_rfl
theorem i6a:bL (aA O n D) au (ce a ow pl fo x (eU [(sO "through",zm),(sO "thing",.int th),(sO "arg",arg)])) S (dj (cJ 6)) at'=some (ce a ow pl fo x (eU [(sO "through",zm),(sO "thing",.int th),(sO "arg",arg),(sO "at",at')]),S):=by kernel_rfl
theorem i7e(hx:x < 9):(aA O (n+8) D).ev au (ce a ow pl fo x (eU [(sO "through",zm),(sO "thing",.int th),(sO "arg",arg),(sO "at",at')])) S (bY (cJ 7))=b2 (Nat.blt 6 x) (some (.bool true,S)) ((aA O (n+6) D).cal wE [.ref 132,.ref 73,.ref 74,iN a,iN x] S):=
 c9 (P:=fun x=>(aA O (n+8) D).ev au (ce a ow pl fo x (eU [(sO "through",zm),(sO "thing",.int th),(sO "arg",arg),(sO "at",at')])) S (bY (cJ 7))=b2 (Nat.blt 6 x) (some (.bool true,S)) ((aA O (n+6) D).cal wE [.ref 132,.ref 73,.ref 74,iN a,iN x] S)) (by kernel_rfl) (by kernel_rfl) (by kernel_rfl) (by kernel_rfl) (by kernel_rfl) (by kernel_rfl) (by kernel_rfl) (by kernel_rfl) (by kernel_rfl) x hx
theorem i7a:bL (aA O n D) au (ce a ow pl fo x (eU [(sO "through",zm),(sO "thing",.int th),(sO "arg",arg),(sO "at",at')])) S (dj (cJ 7)) (.bool br)=some (ce a ow pl fo x (eU (Sb zm th arg at' br [])),S):=by kernel_rfl
theorem i8{j:Bool}:(aA O (n+12) D).run au [.stm (cJ 8)] (ce a ow pl fo x (eU (Sb zm th arg at' br []))) (B3 j W own dyn f g aD)=(aA O (n+11) D).run au [.stm (cJ 9)] (ce a ow pl fo x (eU (Sb zm th arg at' br []))) (B3 j W (.ofNat (Nat.add 64 a)) dyn f g 123):=
 a8 (n:=n+11) (tl:=cJ 9) (v:=.int (.ofNat (Nat.add 64 a))) (zz:=B3 j W own dyn f g aD) (by kernel_rfl) (by kernel_rfl) (by cases j <;>kernel_rfl) (by cases j <;>kernel_rfl)
theorem i9{j:Bool}:(aA O (n+12) D).run au [.stm (cJ 9)] (ce a ow pl fo x (eU (Sb zm th arg at' br []))) (B3 j W own dyn f g 123)=(aA O (n+9) D).run au (lV 0) (cX j a ow pl fo x zm th arg at' br false (jo none)) (HS j W own f g [] [] dyn 123):=by cases j <;>kernel_rfl
theorem XC:(aA O (n+401) (D+1)).cal zG [.ref 122,cb,.ref 78,iN a,iN ow,iN pl,iN fo,iN x] S=match O 996 (D+1) [.ref 122,cb,.ref 78,iN a,iN ow,iN pl,iN fo,iN x] S with
  |some r=>some r
  |none=>aL S ((aA O (n+400) D).run au [.stm (cJ 0)] (ce a ow pl fo x []) ⟨S.H,S.dyn,aD,S.bas⟩):=by kernel_rfl
end
structure UN(W:WP):Prop where
 h:W.home < 5
 a:∀m,m < 22→accN W (Nat.succ m)=1∨accN W (Nat.succ m)=2∨accN W (Nat.succ m)=3∨accN W (Nat.succ m)=4∨accN W (Nat.succ m)=5∨accN W (Nat.succ m)=6
variable{a:Nat}
theorem nR(W:WP)(a:Nat):∀l,cH W a l=nC (rb W (aU W a)) l
 |[]=>rfl
 |t::r=>by
  show b2 (an (fC W t) (!(eqB (aU W t) (aU W a)))) false (cH W a r)=b2 (rb W (aU W a) t) false (nC (rb W (aU W a)) r)
  rw [nR W a r];rfl
theorem TC(W:WP){i:Nat}(hi:i < 7):cw W (Nat.add 64 i)=af W i:=by
 revert i;apply lR 7;rfl
theorem XD(W:WP){i:Nat}(hi:i < 7)(a:Nat):dN W (aU W a) (Nat.add 64 i)=cH W a (af W i):=by
 unfold dN;rw [TC W hi,nR]
def IC(W:WP):Bool:=(List.range 7).all fun t=>(List.range 7).all fun o=>match lB o (aO W t),jP W (Nat.add 64 t) (Nat.add 64 o)with
 |true,true=>true
 |false,false=>true
 |_,_=>false
theorem ro(W:WP):IC W=true:=by
 obtain⟨_,b1,b2,b5⟩:=W
 cases b1 <;>cases b2 <;>cases b5 <;>kernel_rfl
theorem v8(W:WP){t o:Nat}(ht:t < 7)(ho:o < 7):jP W (Nat.add 64 t) (Nat.add 64 o)=lB o (aO W t):=by
 have h:=ykZ.mp (ykZ.mp (ro W) t (mgZ ht)) o (mgZ ho);revert h
 cases lB o (aO W t) <;>cases jP W (Nat.add 64 t) (Nat.add 64 o) <;>intro h <;>first|rfl|cases h
noncomputable def ThR(th:Int)(t:Option Nat):Prop:=(th= -1∧t=none)∨(th= -2∧(t=some 4∨t=some 5))∨∃p:Nat,p < 7∧th=.ofNat p∧t=some (Nat.add 64 p)
theorem ThR.i{th:Int}{t:Option Nat}(h:ThR th t):th= -1∨th= -2∨∃p:Nat,p < 7∧th=.ofNat p:=by
 rcases h with⟨h,_⟩|⟨h,_⟩|⟨p,h1,h2,_⟩
 ·exact .inl h
 ·exact .inr (.inl h)
 ·exact .inr (.inr ⟨p,h1,h2⟩)
theorem zO(W:WP){t o:Nat}(ht:t < 7)(ho:o < 7){th:Int}{u:Option Nat}(h:ThR th u):jR W (Nat.add 64 t) (Nat.add 64 o) u=oj (aO W) o t th:=by
 unfold jR oj;rw [v8 W ht ho]
 congr 1
 rcases h with⟨rfl,rfl⟩|⟨rfl,rfl|rfl⟩|⟨p,hp,rfl,rfl⟩
 ·rfl
 ·revert t;apply lR 7;rfl
 ·revert t;apply lR 7;rfl
 ·exact v8 W hp ht
theorem XE{t o:Nat}(ht:t < 7)(ho:o < 7):eqB (.ofNat (Nat.add 64 t)) (.ofNat (Nat.add 64 o))=eqB (.ofNat t) (.ofNat o):=by
 revert o;apply lR 7;revert t;apply lR 7;rfl
theorem Ar{t:Nat}(ht:t < 7):Nat.sub (Nat.add 64 t) 64=t:=by
 revert t;apply lR 7;rfl
theorem zP(W:WP){t o:Nat}(ht:t < 7)(ho:o < 7){th:Int}{u:Option Nat}(h:ThR th u){zo:Int}(hacc:zo=1∨zo=2∨zo=3∨zo=4∨zo=5):qL W (Nat.add 64 t) (Nat.add 64 o) zo u=nN W (aO W) o zo th t:=by
 unfold qL nN;rw [zO W ht ho h,Ar ht,Ar ho];generalize oj (aO W) o t th=k;generalize eqB (aU W t) (aU W o)=e;unfold Qv;rw [XE ht ho]
 rcases hacc with rfl|rfl|rfl|rfl|rfl <;>rfl
theorem qW(W:WP){o:Nat}(ho:o < 7){th:Int}{u:Option Nat}(h:ThR th u){zo:Int}(hacc:zo=1∨zo=2∨zo=3∨zo=4∨zo=5):∀(l:List Nat),(∀t ∈ l,t < 7)→
  nK (fun a=>qL W a.toNat (Nat.add 64 o) zo u) ((l.map (Nat.add 64)).map Int.ofNat) (eqB zo 6)=on W (aO W) o zo th l
 |[],_=>by rcases hacc with rfl|rfl|rfl|rfl|rfl <;>rfl
 |t::r,hl=>by
  show b2 (qL W (Nat.add 64 t) (Nat.add 64 o) zo u) true (nK _ ((r.map (Nat.add 64)).map Int.ofNat) (eqB zo 6))=b2 (nN W (aO W) o zo th t) true (on W (aO W) o zo th r)
  rw [zP W (hl t (.head _)) ho h hacc,qW W ho h hacc r fun x hx=>hl x (.tail _ hx)]
theorem jp(sv:Int→Bool):∀l,nK sv l true=true
 |[]=>rfl
 |a::r=>by
  show b2 (sv a) true (nK sv r true)=true
  rw [jp sv r]
  cases sv a <;>rfl
theorem TD(W:WP){a:Nat}(ha:a < 7):bN W (Nat.add 64 a)=(af W a).map (Nat.add 64):=by
 revert a;apply lR 7;rfl
theorem fP(W:WP)(hW:W.home < 5){a:Nat}(ha:a < 7):(∀t ∈ af W a,t < 7)∧(af W a).length≤3:=by
 rcases WA ha with rfl|rfl|rfl|rfl|rfl|rfl|rfl <;>refine⟨fun t ht=>?_,lbZ rfl⟩ <;>simp only [af,yhZ,ygZ,or_false]at ht <;>lia
theorem ThR.st{th:Int}{t:Option Nat}(h:ThR th t)(s1:Bool):ThR (b2 (!(eqB (b2 s1 1 0) 0)) (-1) th) (b2 s1 none t):=by
 cases s1
 ·exact h
 ·exact .inl ⟨rfl,rfl⟩
theorem pl2(W:WP)(hW:W.home < 5){a o:Nat}(ha:a < 7)(ho:o < 7){th:Int}{u:Option Nat}(h:ThR th u){zo:Int}(hacc:zo=1∨zo=2∨zo=3∨zo=4∨zo=5∨zo=6)(s1:Bool):
  rf W (aO W) (af W) a o zo (b2 s1 1 0) th=rd W (Nat.add 64 a) (Nat.add 64 o) zo (b2 s1 none u):=by
 unfold rf rd;rw [TD W ha]
 have five:(zo=1∨zo=2∨zo=3∨zo=4∨zo=5)→eqB zo 6=false:=fun h=>by rcases h with rfl|rfl|rfl|rfl|rfl <;>rfl
 by_cases h6:zo=6
 ·subst h6;exact (jp _ _).symm
 ·have h5:zo=1∨zo=2∨zo=3∨zo=4∨zo=5:=by
   rcases hacc with h|h|h|h|h|h
   ·exact .inl h
   ·exact .inr (.inl h)
   ·exact .inr (.inr (.inl h))
   ·exact .inr (.inr (.inr (.inl h)))
   ·exact .inr (.inr (.inr (.inr h)))
   ·exact absurd h h6
  rw [qW W ho (h.st s1) h5 _ (fP W hW ha).1,five h5];rfl
theorem As(W:WP){D:Nat}(hD:7≤D){S:MS}(hS:26≤S.bas){a o:Nat}(ha:a < 7)(ho:o < 7){zo:Int}{zm:MV}{t:Option Nat}(h:gZ zm=some t∨∃vs u,zm=.kd 0∧aH S.dyn 0=some (.tup vs)∧em (.tup vs)=some u∧t=some u):
  Tells (OA W) 519 D [.ref 0,.int (.ofNat (Nat.add 64 a)),.int (.ofNat (Nat.add 64 o)),.int zo,zm] S (.bool (rd W (Nat.add 64 a) (Nat.add 64 o) zo t)):=by
 intro lo
 have ma:aQ (Nat.add 64 a) [64,65,66,67,68,69,70]=true:=q7 (F:=fun a=>aQ (Nat.add 64 a) [64,65,66,67,68,69,70]) (G:=fun _=>true) rfl ha
 have mo:aQ (Nat.add 64 o) [64,65,66,67,68,69,70]=true:=q7 (F:=fun a=>aQ (Nat.add 64 a) [64,65,66,67,68,69,70]) (G:=fun _=>true) rfl ho
 have t0:bB 519 D [.ref 0,.int (.ofNat (Nat.add 64 a)),.int (.ofNat (Nat.add 64 o)),.int zo,zm] ⟨S.H,S.dyn,lo,S.bas⟩=none:=rfl;unfold OA;rw [bo t0];refine fm ?_;unfold RG;rcases h with h|⟨vs,u,rfl,h1,h2,rfl⟩
 ·refine fm (gY (f:=io) (blZ hS) (blZ hD) ?_)
  show ob (gd (aQ (Nat.add 64 a) [64,65,66,67,68,69,70]) (some (Nat.add 64 a))) (fun a=>ob (gd (aQ (Nat.add 64 o) [64,65,66,67,68,69,70]) (some (Nat.add 64 o))) fun b=>(gZ zm).map fun t=>MV.bool (rd W a b zo t))=_
  rw [ma,mo,h];rfl
 ·rw [bo (cT (.inr ?_))]
  ·refine il (f:=io) (t:=0) (i:=[.ref 0,.int (.ofNat (Nat.add 64 a)),.int (.ofNat (Nat.add 64 o)),.int zo]) (vs:=vs) (blZ hS) (blZ hD) rfl h1 ?_
   show ob (gd (aQ (Nat.add 64 a) [64,65,66,67,68,69,70]) (some (Nat.add 64 a))) (fun a=>ob (gd (aQ (Nat.add 64 o) [64,65,66,67,68,69,70]) (some (Nat.add 64 o))) fun b=>(em (.tup vs)).map fun t=>MV.bool (rd W a b zo (some t)))=_
   rw [ma,mo,h2];rfl
  ·show ob (gd (aQ (Nat.add 64 a) [64,65,66,67,68,69,70]) (some (Nat.add 64 a))) (fun a=>ob (gd (aQ (Nat.add 64 o) [64,65,66,67,68,69,70]) (some (Nat.add 64 o))) fun b=>((none:Option (Option Nat))).map fun t=>MV.bool (rd W a b zo t))=_
   rw [ma,mo];rfl
theorem At(W:WP){D:Nat}(hD:6≤D){S:MS}(hS:26≤S.bas){fi:Int}{k:MV}{ts:List Nat}(h:(∃n:Nat,k=.int (.ofNat n)∧dS n oh=some ts)∨∃i vs,k=.kd i∧aH S.dyn i=some (.tup vs)∧HT (.tup vs)=some ts):
  Tells (OA W) 477 D [.ref 0,.int fi,k] S (.bool (eO W fi ts)):=by
 intro lo;have t0:bB 477 D [.ref 0,.int fi,k] ⟨S.H,S.dyn,lo,S.bas⟩=none:=rfl;unfold OA;rw [bo t0];have t1:RG W 477 D [.ref 0,.int fi,k] ⟨S.H,S.dyn,lo,S.bas⟩=none:=rfl;rw [bo t1];unfold UG;rcases h with⟨n,rfl,h⟩|⟨i,vs,rfl,h1,h2⟩
 ·refine fm (gY (f:=lS) (blZ hS) (blZ hD) ?_)
  show (dS n oh).map (fun ts=>MV.bool (eO W fi ts))=_
  rw [h];rfl
 ·rw [bo (cT (.inr rfl))];refine il (f:=lS) (t:=i) (i:=[.ref 0,.int fi]) (vs:=vs) (blZ hS) (blZ hD) rfl h1 ?_
  show (HT (.tup vs)).map (fun ts=>MV.bool (eO W fi ts))=_
  rw [h2];rfl
theorem zQ{j:Bool}{W:WP}{own:Int}{dyn:List MV}{f g:Nat→List Nat}{lo:Nat}:Seen W f g (B3 j W own dyn f g lo):=
 ⟨by cases j <;>kernel_rfl,by cases j <;>kernel_rfl,by cases j <;>kernel_rfl,by cases j <;>kernel_rfl,fun _=>lq 7 (F:=fun i=>aH (B3 j W own dyn f g lo).H (125+i)) (G:=fun i=>some (.list (iL (f i)))) (by cases j <;>kernel_rfl),fun _=>lq 7 (F:=fun i=>aH (B3 j W own dyn f g lo).H (133+i)) (G:=fun i=>some (.list (iL (g i)))) (by cases j <;>kernel_rfl)⟩
theorem qX{j:Bool}{W:WP}{own:Int}{f g:Nat→List Nat}{L:List MV}{dyn:List MV}{lo:Nat}:Seen W f g (HS j W own f g L [] dyn lo):=
 ⟨by cases j <;>kernel_rfl,by cases j <;>kernel_rfl,by cases j <;>kernel_rfl,by cases j <;>kernel_rfl,fun _=>lq 7 (F:=fun i=>aH (HS j W own f g L [] dyn lo).H (125+i)) (G:=fun i=>some (.list (iL (f i)))) (by cases j <;>kernel_rfl),fun _=>lq 7 (F:=fun i=>aH (HS j W own f g L [] dyn lo).H (133+i)) (G:=fun i=>some (.list (iL (g i)))) (by cases j <;>kernel_rfl)⟩
theorem ID{j:Bool}{W:WP}{own:Int}{dyn:List MV}{f g:Nat→List Nat}{lo:Nat}:(B3 j W own dyn f g lo).H.length≤aD:=by
 have:(B3 j W own dyn f g lo).H.length=b2 j 141 140:=by cases j <;>kernel_rfl
 rw [this];cases j <;>decide
theorem lF{j:Bool}{W:WP}{own:Int}{f g:Nat→List Nat}{L:List MV}{dyn:List MV}{lo:Nat}:(HS j W own f g L [] dyn lo).H.length≤aD:=by
 have:(HS j W own f g L [] dyn lo).H.length=b2 j 142 141:=by cases j <;>kernel_rfl
 rw [this];cases j <;>decide
abbrev Au(O:aX)(m D k:Nat)(zl:Loc)(S:MS):MR:=(aA O m D).run au [.stm (cJ k)] zl S
theorem IE{O:aX}{D:Nat}{W:WP}{own:Int}{a ow pl fo x:Nat}{f g:Nat→List Nat}{dy dyn:List MV}{zm at':MV}{th:Int}{br j:Bool}(n:Nat)(hx:x < 9)(hj:Nat.blt 6 x=j)
  (u1:(aA O (n+792+5) D).cal sC [.ref 75] (A1 W own [])=some (.ref 124,A2 W own [] f))
  (u2:(aA O (n+791+5) D).cal sC [.ref 76] (A2 W own [] f)=some (.ref 132,A3 W own [] f g))
  (u4:(aA O (n+787+7) D).cal Sz [.ref 2,.ref 77,iN pl,iN fo] (A3 W own [] f g)=some (.tup [zm,.int th],A3 W own dy f g))
  (s6:Au O (n+794) D 6 (ce a ow pl fo x (eU [(sO "through",zm),(sO "thing",.int th),(sO "arg",.int (eW x))])) (B3 j W own dy f g aD)=Au O (n+793) D 7 (ce a ow pl fo x (eU [(sO "through",zm),(sO "thing",.int th),(sO "arg",.int (eW x)),(sO "at",at')])) (B3 j W own dyn f g aD))
  (u7:b2 j (some (.bool true,B3 j W own dyn f g aD)) ((aA O (n+784+6) D).cal wE [.ref 132,.ref 73,.ref 74,iN a,iN x] (B3 j W own dyn f g aD))=some (.bool br,B3 j W own dyn f g aD)):
  Au O (n+800) D 0 (ce a ow pl fo x []) (A1 W own [])=(aA O (n+788) D).run au (lV 0) (cX j a ow pl fo x zm th (.int (eW x)) at' br false (jo none)) (HS j W (.ofNat (Nat.add 64 a)) f g [] [] dyn 123):=
 (i0 O (n+796) D (A1 W own []) a ow pl fo x).trans <|
 (a8 (n:=n+798) (K:=[]) (tl:=cJ 2) (by kernel_rfl) (by kernel_rfl) ((i1e O (n+792) D (A1 W own []) a ow pl fo x).trans u1) (i1a O (n+798) D (A2 W own [] f) a ow pl fo x)).trans <|
 (a8 (n:=n+797) (K:=[]) (tl:=cJ 3) (by kernel_rfl) (by kernel_rfl) ((i2e O (n+791) D (A2 W own [] f) a ow pl fo x).trans u2) (i2a O (n+797) D (A3 W own [] f g) a ow pl fo x)).trans <|
 (i3 O (n+789) D a ow pl fo x W own f g []).trans <|
 (a8 (n:=n+795) (K:=[]) (tl:=cJ 5) (by kernel_rfl) (by kernel_rfl) ((i4e O (n+787) D a ow pl fo x W own f g []).trans u4) (i4a O (n+795) D (A3 W own dy f g) a ow pl fo x zm th)).trans <|
 (i5 O (n+783) D a ow pl fo x zm th W own f g dy hx).trans <|
 (congrArg (fun j=>Au O (n+794) D 6 (ce a ow pl fo x (eU [(sO "through",zm),(sO "thing",.int th),(sO "arg",.int (eW x))])) (B3 j W own dy f g aD)) hj).trans <|
 s6.trans <|
 (a8 (n:=n+792) (K:=[]) (v:=.bool br) (zz:=B3 j W own dyn f g aD) (tl:=cJ 8) (by kernel_rfl) (by kernel_rfl) ((i7e O (n+784) D (B3 j W own dyn f g aD) a ow pl fo x zm th (.int (eW x)) at' hx).trans ((congrArg (fun c=>b2 c (some (MV.bool true,B3 j W own dyn f g aD)) ((aA O (n+784+6) D).cal wE [.ref 132,.ref 73,.ref 74,iN a,iN x] (B3 j W own dyn f g aD))) hj).trans u7)) (i7a O (n+792) D (B3 j W own dyn f g aD) a ow pl fo x zm th (.int (eW x)) at' br)).trans <|
 (i8 (j:=j) O (n+780) D a ow pl fo x zm th (.int (eW x)) at' br W own f g dyn).trans <|
 i9 (j:=j) O (n+779) D a ow pl fo x zm th (.int (eW x)) at' br W (.ofNat (Nat.add 64 a)) f g dyn
theorem IF{O:aX}{D:Nat}{W:WP}{own:Int}{a pl fo x:Nat}{f g:Nat→List Nat}{dy:List MV}{zm:MV}{th:Int}{j:Bool}(n:Nat)
  (u:(aA O (n+781+10) D).cal wL [.ref 2,.int 66,.tup [.int (eW x)]] (B3 j W own dy f g aD)=some (df 2 x dy,B3 j W own (bz 2 x dy) f g aD)):
  Au O (n+794) D 6 (ce a 2 pl fo x (eU [(sO "through",zm),(sO "thing",.int th),(sO "arg",.int (eW x))])) (B3 j W own dy f g aD)=Au O (n+793) D 7 (ce a 2 pl fo x (eU [(sO "through",zm),(sO "thing",.int th),(sO "arg",.int (eW x)),(sO "at",df 2 x dy)])) (B3 j W own (bz 2 x dy) f g aD):=
 a8 (n:=n+793) (K:=[]) (tl:=cJ 7) (by kernel_rfl) (by kernel_rfl) ((i6e (j:=j) O (n+781) D a pl fo x zm th (.int (eW x)) W own f g dy).trans u) (i6a O (n+793) D (B3 j W own (bz 2 x dy) f g aD) a 2 pl fo x zm th (.int (eW x)) (df 2 x dy))
theorem TF{O:aX}{D:Nat}{W:WP}{own:Int}{a pl fo x:Nat}{f g:Nat→List Nat}{dy:List MV}{zm:MV}{th:Int}{j:Bool}(n:Nat):∀ow:Nat,ow < 5→
  (ow=2→(aA O (n+781+10) D).cal wL [.ref 2,.int 66,.tup [.int (eW x)]] (B3 j W own dy f g aD)=some (df 2 x dy,B3 j W own (bz 2 x dy) f g aD))→
  Au O (n+794) D 6 (ce a ow pl fo x (eU [(sO "through",zm),(sO "thing",.int th),(sO "arg",.int (eW x))])) (B3 j W own dy f g aD)=Au O (n+793) D 7 (ce a ow pl fo x (eU [(sO "through",zm),(sO "thing",.int th),(sO "arg",.int (eW x)),(sO "at",df ow x dy)])) (B3 j W own (bz ow x dy) f g aD):=
 c5 (fun _=>UM (j:=j) O (n+782) D a 0 pl fo x zm th (.int (eW x)) W own f g dy (by decide)) (fun _=>UM (j:=j) O (n+782) D a 1 pl fo x zm th (.int (eW x)) W own f g dy (by decide)) (fun u=>IF n (u rfl)) (fun _=>UM (j:=j) O (n+782) D a 3 pl fo x zm th (.int (eW x)) W own f g dy (by decide)) (fun _=>UM (j:=j) O (n+782) D a 4 pl fo x zm th (.int (eW x)) W own f g dy (by decide))
theorem TG{O:aX}(nZ:∀d x s,O 982 d x s=none){d:Nat}{W:WP}(hW:W.home < 5){own:Int}{a x:Nat}(ha:a < 7){f:Nat→List Nat}{dyn:List MV}(n:Nat):∀j,Nat.blt 6 x=j→
  b2 j (some (.bool true,B3 j W own dyn f (af W) aD)) ((aA O (n+784+6) (d+13)).cal wE [.ref 132,.ref 73,.ref 74,iN a,iN x] (B3 j W own dyn f (af W) aD))=some (.bool (b2 j true (cH W a (af W x))),B3 j W own dyn f (af W) aD)
 |true,_=>rfl
 |false,h=>
  have hx7:x < 7:=Nat.lt_of_not_le fun g=>nomatch (blZ g).symm.trans h
  vH (O:=O) (n:=n+749) (d:=d+12) (a:=a) (p:=x) nZ (zQ (j:=false) (W:=W) (own:=own) (dyn:=dyn) (f:=f) (g:=af W) (lo:=aD)) ID ha hx7 (fP W hW hx7).1 (fP W hW hx7).2
theorem IG(j:Bool)(W:WP)(own:Int)(own':Int)(f g:Nat→List Nat)(L us dyn:List MV):aL (A1 W own []) (some (.bool true,TS j W own' f g L L us dyn 123))=some (.bool true,⟨(TS j W own' f g L L us dyn 123).H,dyn,123,123⟩):=by
 cases j <;>kernel_rfl
theorem zR(j:Bool)(W:WP)(own':Int)(f g:Nat→List Nat)(L us dyn:List MV):(TS j W own' f g L L us dyn 123).H[123]? =some (fs own'):=by
 rw [←aJ]
 cases j <;>kernel_rfl
theorem v9{O:aX}{d:Nat}{W:WP}{own:Int}(hW:W.home < 5){a ow pl fo x:Nat}(ha:a < 7)(ho:ow < 5)(hp:pl < 7)(hf:fo < 9)(hx:x < 9){sv:Nat→Bool}{dyn:List MV}(n:Nat)
  (lg:∀d x s,O 961 d x s=none) (nZ:∀d x s,O 982 d x s=none) (sJ:∀d x s,O 996 d x s=none)
  (hth:∀n,(aA O (n+41) (d+13)).cal Sz [.ref 2,.ref 77,iN pl,iN fo] (A3 W own [] (aO W) (af W))=some (.tup [sG pl fo,.int (Hz pl fo)],A3 W own (iK pl fo) (aO W) (af W)))
  (hck:∀n,ow=2→(aA O (n+31) (d+13)).cal wL [.ref 2,.int 66,.tup [.int (eW x)]] (B3 (Nat.blt 6 x) W own (iK pl fo) (aO W) (af W) aD)=some (df 2 x (iK pl fo),B3 (Nat.blt 6 x) W own (bz 2 x (iK pl fo)) (aO W) (af W) aD))
  (hdy:dyn=bz ow x (iK pl fo))
  (A:vZ (Nat.blt 6 x) O W (.ofNat (Nat.add 64 a)) (aO W) (af W) dyn a ow (sG pl fo) (Hz pl fo) (.int (eW x)) (df ow x (iK pl fo)) (b2 (Nat.blt 6 x) true (cH W a (af W x))) (cH W a (af W ow)) (d+13) sv)
  (H:∀L,An (Nat.blt 6 x) O W (.ofNat (Nat.add 64 a)) (aO W) (af W) L dyn (df ow x (iK pl fo)) d) (hv:eT O W (.ofNat (Nat.add 64 a)) (aO W) (af W) dyn (sG pl fo) (d+10) sv (dt ow)):
  ∃H2 dyn2 b1 b2,(aA O (n+801) (d+14)).cal zG [.ref 122,cb,.ref 78,iN a,iN ow,iN pl,iN fo,iN x] ⟨eq W own,[],aD,aD⟩=some (.bool true,⟨H2,dyn2,b1,b2⟩)∧123≤b2∧H2[123]? =some (fs (.ofNat (Nat.add 64 a))):=by
 subst hdy
 have h17:ow=1→df ow x (iK pl fo)=.int 17:=fun h=>by subst h;rfl
 have h19:ow=3→df ow x (iK pl fo)=.int 19:=fun h=>by subst h;rfl
 have c:=XC O (n+400) (d+13) (A1 W own []) a ow pl fo x;rw [sJ]at c
 have lp:=zJ (pl:=pl) (fo:=fo) (x:=x) A ho (fun N hN q=>Hy (pl:=pl) (fo:=fo) (x:=x) (a:=a) (th:=Hz pl fo) (arg:=.int (eW x)) (br:=b2 (Nat.blt 6 x) true (cH W a (af W x))) ho h17 h19 H hv N hN q) 22 0 (by decide) (n+788) (by lia) [] false none (by decide) rfl rfl
 have all:=(IE n hx rfl (vF O lg W own [] (n+647) (d+12)) (H9 O lg W hW own [] (aO W) (n+646) (d+12)) (hth (n+753)) (TF n _ ho (hck (n+760))) (TG nZ hW ha n _ rfl)).trans lp;exact⟨_,_,123,123,(c.trans (congrArg (aL (A1 W own [])) all)).trans (IG _ W own _ _ _ _ _ _),lrZ _,zR _ W _ _ _ _ _ _⟩
noncomputable def Aw(p fo:Nat):Option Nat:=match fo with
 |3=>some 68
 |5=>none
 |6=>none
 |7=>some 5
 |8=>some 4
 |_=>some (Nat.add 64 p)
theorem TH{p:Nat}(hp:p < 7):∀fo:Nat,fo < 9→ThR (Hz p fo) (Aw p fo):=
 c9 (.inr (.inr ⟨p,hp,rfl,rfl⟩)) (.inr (.inr ⟨p,hp,rfl,rfl⟩)) (.inr (.inr ⟨p,hp,rfl,rfl⟩)) (.inr (.inr ⟨4,by decide,rfl,rfl⟩)) (.inr (.inr ⟨p,hp,rfl,rfl⟩)) (.inl ⟨rfl,rfl⟩) (.inl ⟨rfl,rfl⟩) (.inr (.inl ⟨rfl,.inr rfl⟩)) (.inr (.inl ⟨rfl,.inl rfl⟩))
theorem XF{p:Nat}(hp:p < 7):∀fo:Nat,fo < 9→(gZ (sG p fo)=some (Aw p fo)∨∃vs u,sG p fo=.kd 0∧aH (iK p fo) 0=some (.tup vs)∧em (.tup vs)=some u∧Aw p fo=some u):=
 c9 (.inl ((by revert p;apply lR 7;kernel_rfl))) (.inr ⟨[.int 5,.int (lX p)],Nat.add 64 p,rfl,rfl,(by revert p;apply lR 7;kernel_rfl),rfl⟩) (.inr ⟨[.int 9,.int (lX p)],Nat.add 64 p,rfl,rfl,(by revert p;apply lR 7;kernel_rfl),rfl⟩) (.inr ⟨_,_,rfl,rfl,by kernel_rfl,rfl⟩) (.inr ⟨[.int 11,.int (lX p)],Nat.add 64 p,rfl,rfl,(by revert p;apply lR 7;kernel_rfl),rfl⟩) (.inl (by kernel_rfl)) (.inl (by kernel_rfl)) (.inr ⟨[.int 4,.int (lX p)],5,rfl,rfl,(by revert p;apply lR 7;kernel_rfl),rfl⟩) (.inl (by kernel_rfl))
theorem Ax{ow x:Nat}{dyn:List MV}{v:MV}(h:aH dyn 0=some v):aH (bz ow x dyn) 0=some v:=by
 unfold bz;split
 ·exact h
 ·exact cU h
 ·exact h
noncomputable def J3(x:Nat):List Nat:=match x with
 |7=>[]
 |8=>[]
 |x=>[Nat.add 64 x]
theorem XG:∀x:Nat,x < 9→∃n:Nat,MV.int (eW x)=.int (.ofNat n)∧dS n oh=some (J3 x):=
 c9 ⟨16,rfl,rfl⟩ ⟨17,rfl,rfl⟩ ⟨18,rfl,rfl⟩ ⟨19,rfl,rfl⟩ ⟨21,rfl,rfl⟩ ⟨22,rfl,rfl⟩ ⟨23,rfl,rfl⟩ ⟨9,rfl,rfl⟩ ⟨13,rfl,rfl⟩
def atT(ow x:Nat):List Nat:=match ow with
 |2=>66::J3 x
 |ow=>[Nat.add 64 ow]
theorem XH(dyn:List MV):∀x:Nat,x < 9→((∃n:Nat,df 2 x dyn=.int (.ofNat n)∧dS n oh=some (atT 2 x))∨∃i vs,df 2 x dyn=.kd i∧aH (bz 2 x dyn) i=some (.tup vs)∧HT (.tup vs)=some (atT 2 x)):=
 c9 (.inr ⟨dyn.length,_,rfl,bK _ _,rfl⟩) (.inr ⟨dyn.length,_,rfl,bK _ _,rfl⟩) (.inr ⟨dyn.length,_,rfl,bK _ _,rfl⟩) (.inr ⟨dyn.length,_,rfl,bK _ _,rfl⟩) (.inr ⟨dyn.length,_,rfl,bK _ _,rfl⟩) (.inr ⟨dyn.length,_,rfl,bK _ _,rfl⟩) (.inr ⟨dyn.length,_,rfl,bK _ _,rfl⟩) (.inl ⟨18,rfl,rfl⟩) (.inr ⟨dyn.length,_,rfl,bK _ _,rfl⟩)
theorem XI{x:Nat}(hx:x < 9)(dyn:List MV):∀ow:Nat,ow < 5→((∃n:Nat,df ow x dyn=.int (.ofNat n)∧dS n oh=some (atT ow x))∨∃i vs,df ow x dyn=.kd i∧aH (bz ow x dyn) i=some (.tup vs)∧HT (.tup vs)=some (atT ow x)):=
 c5 (.inl ⟨16,rfl,rfl⟩) (.inl ⟨17,rfl,rfl⟩) (XH dyn _ hx) (.inl ⟨19,rfl,rfl⟩) (.inl ⟨21,rfl,rfl⟩)
theorem TI(b:Bool):b2 b true false=b:=by cases b <;>rfl
theorem iu(W:WP){a i:Nat}(hi:i < 7):eO W (aU W a) [Nat.add 64 i]=cH W a (af W i):=by
 show b2 (dN W (aU W a) (Nat.add 64 i)) true false=_
 rw [TI,XD W hi]
theorem TJ(W:WP)(a:Nat):∀x:Nat,x < 9→eO W (aU W a) (J3 x)=b2 (Nat.blt 6 x) true (cH W a (af W x)):=
 c9 (iu W (by decide)) (iu W (by decide)) (iu W (by decide)) (iu W (by decide)) (iu W (by decide)) (iu W (by decide)) (iu W (by decide)) rfl rfl
theorem vb(W:WP){x:Nat}(hx:x < 9)(a:Nat):eO W (aU W a) (J3 x)=b2 (Nat.blt 6 x) true (cH W a (af W x)):=TJ W a _ hx
theorem qY(W:WP){a i:Nat}(hi:i < 7):eO W (aU W a) [Nat.add 64 i]=b2 (cH W a (af W i)) true false:=by
 show b2 (dN W (aU W a) (Nat.add 64 i)) true false=_
 rw [XD W hi]
theorem TK(W:WP){x:Nat}(hx:x < 9)(a:Nat):eO W (aU W a) (atT 2 x)=b2 (cH W a (af W 2)) (b2 (Nat.blt 6 x) true (cH W a (af W x))) false:=by
 show b2 (dN W (aU W a) (Nat.add 64 2)) (eO W (aU W a) (J3 x)) false=_
 rw [XD W (by decide),vb W hx]
theorem TL(W:WP){x:Nat}(hx:x < 9)(a:Nat):∀ow:Nat,ow < 5→eO W (aU W a) (atT ow x)=b2 (cH W a (af W ow)) (b2 (eqB (.ofNat ow) 2) (b2 (Nat.blt 6 x) true (cH W a (af W x))) true) false:=
 c5 (qY W (by decide)) (qY W (by decide)) (TK W hx a) (qY W (by decide)) (qY W (by decide))
theorem IH(W:WP){ow x:Nat}(ho:ow < 5)(hx:x < 9)(a:Nat):eO W (aU W a) (atT ow x)=b2 (cH W a (af W ow)) (b2 (eqB (.ofNat ow) 2) (b2 (Nat.blt 6 x) true (cH W a (af W x))) true) false:=TL W hx a _ ho
theorem lG(W:WP){m ow:Nat}{s1 zp g1:Bool}(hr:(m,ow,s1,zp,g1) ∈ aK W):m < 22∧ow < 5∧sE (Nat.succ m)=ow∧Nat.succ m ∈ b2 s1 sD vM∧(g1=true→ow=2):=by
 have h:=ai (aK W) (fun r=>(Nat.blt r.1 22,Nat.blt r.2.1 5,Nat.beq (sE (Nat.succ r.1)) r.2.1,aQ (Nat.succ r.1) (b2 r.2.2.1 sD vM),b2 r.2.2.2.2 (Nat.beq r.2.1 2) true)) (fun _=>(true,true,true,true,true)) (by kernel_rfl) _ hr
 exact⟨lbZ (congrArg (·.1) h),lbZ (congrArg (·.2.1) h),ebZ (congrArg (·.2.2.1) h),cN (congrArg (·.2.2.2.1) h),fun e=>ebZ ((congrArg (fun g=>b2 g (Nat.beq ow 2) true) e).symm.trans (congrArg (·.2.2.2.2) h))⟩
theorem II{a:Nat}(ha:a < 7):eqB (.ofNat (Nat.add 64 a)) 0=false:=(by revert a;apply lR 7;rfl)
theorem IJ(ow:Nat)(s nm br g1:Bool)(h:g1=true→ow=2):b2 (b2 nm (b2 (eqB (.ofNat ow) 2) br true) false) (b2 (b2 g1 br true) s false) false=lD ow s nm br g1:=by
 unfold lD;generalize hc:eqB (.ofNat ow) 2=c
 have hg:b2 g1 c true=true:=by
  cases g1 with
  |true=>
   rw [←hc,h rfl];rfl
  |false=>rfl
 clear h hc;revert c s nm br g1;decide
section
def zS(W:WP)(a ow pl fo:Nat)(m:Nat):Bool:=rd W (Nat.add 64 a) (Nat.add 64 ow) (accN W m) (b2 (ot m) none (Aw pl fo))
theorem lH{m:Nat}{s1:Bool}(h:m ∈ b2 s1 sD vM):ot m=s1:=
 Bool.rec (motive:=fun s1=>m ∈ b2 s1 sD vM→ot m=s1) (ai vM ot (fun _=>false) (by kernel_rfl) m) (ai sD ot (fun _=>true) (by kernel_rfl) m) s1 h
theorem vc{D:List MV}(hp:pl < 7)(hf:fo < 9)(hd:∀v,aH (iK pl fo) 0=some v→aH D 0=some v)(s1:Bool):gZ (b2 s1 (.int (-1)) (sG pl fo))=some (b2 s1 none (Aw pl fo))∨∃vs u,b2 s1 (.int (-1)) (sG pl fo)=.kd 0∧aH D 0=some (.tup vs)∧em (.tup vs)=some u∧b2 s1 none (Aw pl fo)=some u:=by
 cases s1 with
 |true=>exact .inl rfl
 |false=>
  rcases XF hp _ hf with h|⟨vs,u,h1,h2,h3,h4⟩
  ·exact .inl h
  ·exact .inr ⟨vs,u,h1,hd _ h2,h3,h4⟩
theorem qZ(ha:a < 7)(ho:ow < 5)(hp:pl < 7)(hf:fo < 9)(hd:∀v,aH (iK pl fo) 0=some v→aH dyn 0=some v){m:Nat}{s1:Bool}(hm:m ∈ b2 s1 sD vM)(how:sE m=ow)(T:List MO)(lo:Nat)(hl:(BT W (.ofNat (Nat.add 64 a)) T dyn lo 123).H.length≤aD)(n:Nat):
  (aA (OA W) (n+25) (d+10+2)).cal oo [.ref 122,.int (.ofNat m),sG pl fo] (BT W (.ofNat (Nat.add 64 a)) T dyn lo 123)=some (.bool (zS W a ow pl fo m),BT W (.ofNat (Nat.add 64 a)) T dyn lo 123):=by
 refine zC (st:=s1) (Hj W) (Hk W) hl (II ha) hm ?_;unfold zS;rw [how,lH hm]
 exact As W (by lia) (show 26≤123 by decide) ha (by lia) (vc hp hf hd s1)
theorem TM(hW:UN W)(ha:a < 7)(ho:ow < 5)(hp:pl < 7)(hf:fo < 9)(hx:x < 9){j:Bool}(hdy:dyn=bz ow x (iK pl fo)):
  vZ j (OA W) W (.ofNat (Nat.add 64 a)) (aO W) (af W) dyn a ow (sG pl fo) (Hz pl fo) (.int (eW x)) (df ow x (iK pl fo)) (b2 (Nat.blt 6 x) true (cH W a (af W x))) (cH W a (af W ow)) (d+13) (zS W a ow pl fo):=by
 have hd:∀v,aH (iK pl fo) 0=some v→aH dyn 0=some v:=fun v h=>by rw [hdy];exact Ax h
 refine⟨fun r hr how n L=>?_,fun r hr how n L=>?_,fun n L=>?_,fun r hr how n L=>?_⟩
 ·obtain⟨m,ow',s1,zp,g1⟩:=r;obtain⟨h1,h2,h3,h4,h5⟩:=lG W hr;have how:ow'=ow:=how;subst how
  have es:zS W a ow' pl fo (Nat.succ m)=rd W (Nat.add 64 a) (Nat.add 64 ow') (accN W (Nat.succ m)) (b2 s1 none (Aw pl fo)):=by unfold zS;rw [lH (m:=Nat.succ m) h4]
  have e:=Hd (O:=OA W) (n:=n) (d:=d+12) (S:=HS j W (.ofNat (Nat.add 64 a)) (aO W) (af W) L [] dyn 123) (mid:=Nat.succ m) (zx:=b2 s1 1 0) (gen:=b2 g1 1 0) (zp:=zp) (Hq W) qX lF ha (show ow' < 7 by lia) (hW.a m h1) (TH hp _ hf).i (fP W hW.h ha).1 (fP W hW.h ha).2
  rw [show d+12+1=d+13 from rfl,pl2 W hW.h ha (show ow' < 7 by lia) (TH hp _ hf) (hW.a m h1) s1,←es]at e
  exact e
 ·obtain⟨m,ow',s1,zp,g1⟩:=r;obtain⟨h1,h2,h3,h4,h5⟩:=lG W hr;have how:ow'=ow:=how;have e:=qZ (d:=d+1) (W:=W) ha ho hp hf hd h4 (h3.trans how) (rk j (aO W) (af W) L++[]) 123 lF (n+36);exact e
 ·have e:=vH (O:=OA W) (n:=n+20) (d:=d+12) (a:=a) (p:=ow) (vR W) (qX (j:=j) (W:=W) (own:=.ofNat (Nat.add 64 a)) (f:=aO W) (g:=af W) (L:=L) (dyn:=dyn) (lo:=123)) lF ha (by lia) (fP W hW.h (by lia)).1 (fP W hW.h (by lia)).2
  exact e
 ·obtain⟨m,ow',s1,zp,g1⟩:=r;obtain⟨h1,h2,h3,h4,h5⟩:=lG W hr;have how:ow'=ow:=how;subst how
  have q1:=At W (D:=d+12) (by lia) (S:=BT W (.ofNat (Nat.add 64 a)) (rk j (aO W) (af W) L++[]) dyn 123 123) (show 26≤123 by decide) (fi:=aU W a) (k:=df ow' x (iK pl fo)) (ts:=atT ow' x) (by rw [hdy];exact XI hx _ _ ho)
  have q2:=At W (D:=d+12) (by lia) (S:=BT W (.ofNat (Nat.add 64 a)) (rk j (aO W) (af W) L++[]) dyn 123 123) (show 26≤123 by decide) (fi:=aU W a) (k:=.int (eW x)) (ts:=J3 x) (.inl (XG _ hx))
  have q3:=As W (D:=d+12) (by lia) (S:=BT W (.ofNat (Nat.add 64 a)) (rk j (aO W) (af W) L++[]) dyn 123 123) (show 26≤123 by decide) (a:=a) (o:=ow') ha (by lia) (zo:=accN W (Nat.succ m)) (vc hp hf hd s1)
  rw [IH W ho hx]at q1;rw [vb W hx]at q2;have how3:sE (Nat.succ m)=ow':=h3;rw [←how3]at q3
  have e:=He (O:=OA W) (n:=n+20) (d:=d+12) (W:=W) (own:=.ofNat (Nat.add 64 a)) (T:=rk j (aO W) (af W) L++[]) (dyn:=dyn) (lo:=123) (ba:=123) (args:=b2 g1 [.int (eW x)] []) (arg:=.int (eW x)) (q2:=b2 g1 (b2 (Nat.blt 6 x) true (cH W a (af W x))) true) (Hp W) lF ha h1 (by cases g1 with|true=>exact .inr ⟨rfl,q2⟩|false=>exact .inl ⟨rfl,rfl⟩) q1 q3
  rw [show n+20+41=n+61 from rfl,show d+12+1=d+13 from rfl,IJ ow' _ _ _ g1 h5,how3]at e
  have es:zS W a ow' pl fo (Nat.succ m)=rd W (Nat.add 64 a) (Nat.add 64 ow') (accN W (Nat.succ m)) (b2 s1 none (Aw pl fo)):=by unfold zS;rw [lH (m:=Nat.succ m) h4]
  show (aA (OA W) (n+61) (d+13)).cal Rj [.ref 0,iN (Nat.add 64 a),nX (df ow' x (iK pl fo)) (.int (eW x)) m g1,b2 s1 (.int (-1)) (sG pl fo)] _=some (.bool (lD ow' (zS W a ow' pl fo (Nat.succ m)) _ _ g1),_)
  rw [es];exact e
theorem TN:∀ow:Nat,ow < 5→∀m ∈ dt ow,(ow,m) ∈ lU:=
 c5 (by unfold lU sF zD dt;decide) (by unfold lU sF zD dt;decide) (by unfold lU sF zD dt;decide) (by unfold lU sF zD dt;decide) (by unfold lU sF zD dt;decide)
theorem IK{m:Nat}(hm:m ∈ dt ow)(ho:ow < 5):(ow,m) ∈ lU:=TN _ ho m hm
theorem zT(hW:UN W)(ha:a < 7)(ho:ow < 5)(hp:pl < 7)(hf:fo < 9)(hx:x < 9)(own:Int):∃H2 dyn2 b1 b2,(aA (OA W) 801 (d+14)).cal zG [.ref 122,cb,.ref 78,iN a,iN ow,iN pl,iN fo,iN x] ⟨eq W own,[],aD,aD⟩=some (.bool true,⟨H2,dyn2,b1,b2⟩)∧123≤b2∧H2[123]? =some (fs (.ofNat (Nat.add 64 a))):=by
 obtain⟨k,hk⟩:=zN pl fo
 have hd:∀v,aH (iK pl fo) 0=some v→aH (bz ow x (iK pl fo)) 0=some v:=fun v h=>Ax h
 refine v9 (d:=d) (dyn:=bz ow x (iK pl fo)) (sv:=zS W a ow pl fo) hW.h ha ho hp hf hx 0 (Hr W) (vR W) (fun d x s=>by kernel_rfl) (fun n=>?_) (fun n h2=>?_) rfl (TM hW ha ho hp hf hx rfl) (fun L=>Sa W _ _ _ L _ _ d) (fun m hm T lo hl n=>?_)
 ·have e:=IA W own (aO W) (af W) n (d+1) hp hf;exact e
 ·have e:=IB W own (aO W) (af W) n (d+1) k hx _ hk;exact e
 ·obtain⟨m1,m2,m3,m4⟩:=Ao (IK hm ho);exact qZ ha ho hp hf hd m3 m4 T lo hl n
end
def ou(a ow pl fo x:Nat):List MV:=[.ref 122,cb,.ref 78,iN a,iN ow,iN pl,iN fo,iN x]
def Ay(args:List MV)(a:Nat):Prop:=∃ow pl fo x,args=ou a ow pl fo x∧a < 7∧ow < 5∧pl < 7∧fo < 9∧x < 9
def zU(args:List MV):Option (MV×(Int→Int)):=open Classical in if h:∃a,Ay args a then some (.bool true,fun _=>.ofNat (Nat.add 64 h.choose)) else none
theorem IL{w:Wd}{W:WP}(hW:W.home < 5)(hB:iE w W):ak w (OA W):=ac (bI w) (ac (HO hW hB) (HV hW hB))
theorem IM(W:WP):ah (OA W):=ae bJ (ae (HP W) (HW W))
def vd:aX:=re zG 14 zU
theorem zV{w:Wd}{W:WP}(hW:UN W)(hB:sB w W):ak w vd:=by
 refine qR (fun w' hB'=>IL hW.h (RN hB')) (IM W) Pp (fun args p h=>?_) hB
 unfold zU at h;split at h
 ·rename_i hx;cases h;obtain⟨ow,pl,fo,x,h1,h2,h3,h4,h5,h6⟩:=hx.choose_spec
  refine⟨.bool _,by rw [h1];rfl,801,fun own d=>?_⟩
  have e:=zT (d:=d) hW h2 h3 h4 h5 h6 own
  rw [←show args=[.ref 122,cb,.ref 78,iN hx.choose,iN ow,iN pl,iN fo,iN x]from h1]at e
  exact e
 ·cases h
theorem zW:ah vd:=qS _ _ _
theorem IN{d:Nat}{a ow pl fo x:Nat}(hd:14≤d)(ha:a < 7)(ho:ow < 5)(hp:pl < 7)(hf:fo < 9)(hx:x < 9){st:MS}{own:Int}(hb:123≤st.bas)(hs:st.H[123]? =some (fs own)):
  ∃a',vd 996 d (ou a ow pl fo x) st=some (.bool true,⟨bO (fs a') st.H 123,st.dyn,mn 123 st.low,mn 123 st.bas⟩):=by
 have h:∃a',Ay (ou a ow pl fo x) a':=⟨a,ow,pl,fo,x,rfl,ha,ho,hp,hf,hx⟩
 have e:zU (ou a ow pl fo x)=some (.bool true,fun _=>.ofNat (Nat.add 64 h.choose)):=by unfold zU;rw [dif_pos h]
 exact⟨_,oi (f:=zG) hb hd hs e⟩
section
variable{st:MS}{s2:Shared}
theorem Now.unview3(n:Now w h₀ L m X l st s)(hi2:st.H[2]? =some .ktb)(V:IsView w (ix w k l st) k l st [] [])(n2:Now (ix w k l st) h₀ L m (X++l.RL.drop k) l2 st2 s2)(x:Ext ⟨l.RL.take k,l.im,[]⟩ l2)
  (hb:k≤st2.bas):Now w h₀ L m X ⟨l2.RL.take k++l.RL.drop k,l2.im,l.ks⟩ st s2∧(⟨l2.RL.take k++l.RL.drop k,l2.im,l.ks⟩:LS).as=l.as∧k≤l2.RL.length:=by
 obtain⟨⟨E0,D0,W0,O0,⟨t0,_⟩,_⟩,_⟩:=n.H.tab 2 hi2
 exact n.back0 V n2 x hb fun _ _ E D W O t=>t0.open1 t
end
section
variable{st:MS}{b2:Nat}{H2 dyn2:List _}
theorem IP(C:eC (ix w k l st) d cal)(S:Sit w F)(hA:A.frames=some (F.env::F.outer))(hh:A.handled=none)(R:ge A d)(hf:dT w.params f)(n:Now w F.h₀ F.L m X l st s)(hi2:st.H[2]? =some .ktb)(V:IsView w (ix w k l st) k l st [] [])
  (e:cal f args' ⟨b9 k k st.H,[],aD,aD⟩=some (v,⟨H2,dyn2,b1,b2⟩)) (hb:k≤b2) (ha:(⟨l.RL.take k,l.im,[]⟩:LS).VRs args' zq) (hv:Pz v) {Q:Result→Shared→Prop}
  (hQ:∀v' s' l',Now w F.h₀ F.L m X l' st s'→Ext l l'→Same s s'→l'.VR v v'→Q (.ok (.ret v')) s'):codeAny (M w) A (.call (.ref f.ad) ⟨zq,[]⟩) Q s:=by
 have z:=C F (S.to V.ww) A hA hh R m (X++l.RL.drop k) _ _ s f (V.params ▸hf) args' zq v _ e (n.view V) ha Q fun v' s' l' n' x y r=>by
  obtain⟨n3,e3,_⟩:=n.unview3 hi2 V n' x hb
  exact hQ v' s' _ n3 ⟨by rw [e3];exact prZ,prZ,x.im⟩ y (VR.pz r hv)
 have eM:M (ix w k l st)=M w:=by show model pg (ix w k l st).w=model pg w.w;rw [V.ww]
 rw [eM]at z;exact z
end
def vT(W:WP):List MO:=(base W).take 122
theorem lI(W:WP):(vT W).length=122:=by kernel_rfl
theorem zX(W:WP):(vT W).map (cu 122)=(vT W).take 121++[.list [gv 122 (lQ W)]]:=by kernel_rfl
theorem zY(W:WP):gv 122 (lQ W)=lQ W:=by
 obtain⟨_,_,_,_,_,_,_,_,_,_,_,_,_,_,_,_,_,_,_,g⟩:=W
 match g with
 |0=>rfl
 |1=>rfl
 |2=>rfl
 |3=>rfl
 |4=>rfl
 |g+5=>rfl
theorem ve(W:WP):(vT W).map (cu 122)=vT W:=by rw [zX,zY];kernel_rfl
theorem Az(W:WP):JX 122 (vT W)=true:=by kernel_rfl
def zZ(f:FI)(dm:Nat)(zv:List MV→Option MV):aX:=fun a d args st=>match Nat.beq a f.ad with
 |true=>match Nat.ble 122 st.bas,Nat.ble dm d with
  |true,true=>match zv (ci 122 args)with
   |some v=>some (v,st)
   |none=>none
  |_,_=>none
 |false=>none
theorem eX(f:FI)(dm:Nat)(zv:List MV→Option MV):ah (zZ f dm zv):=by
 intro a d args st v st' e;unfold zZ at e;split at e
 ·split at e
  ·split at e
   ·cases e;exact Pres.rfl'
   ·cases e
  ·cases e
 ·cases e
def nY(w:Wd)(W:WP):Prop:=(w.B.map (·.1)).take 122=vT W
theorem BA{w:Wd}{W:WP}(h:sB w W):nY w W:=by unfold nY vT;rw [←h,List.take_take];rfl
def rp(W:WP)(f:FI)(dm:Nat)(args:List MV)(v:MV):Prop:=∃O',ah O'∧(∀w',nY w' W→ak w' O')∧∃N,∀d,∃H2 dyn2 b1 b2,(aA O' N (d+dm)).cal f args ⟨vT W,[],aD,aD⟩=some (v,⟨H2,dyn2,b1,b2⟩)∧122≤b2
theorem eY{W:WP}{f:FI}{dm:Nat}{zv:List MV→Option MV}(hf:∀P,dT P f)(hs:∀args v,zv args=some v→Pz v∧rp W f dm args v){w:Wd}(hB:nY w W):ak w (zZ f dm zv):=by
 intro d F S A hA hh R m X l st s f' hf' args zq v st' e n hv Q hQ
 replace e:(match Nat.beq f'.ad f.ad with
  |true=>match Nat.ble 122 st.bas,Nat.ble dm d with
   |true,true=>match zv (ci 122 args)with
    |some v=>some (v,st)
    |none=>none
   |_,_=>none
  |false=>none)=some (v,st'):=e
 split at e
 ·rename_i h1;have h1:=ebZ h1;split at e
  ·rename_i h2 h3;split at e
   ·rename_i v0 h4;cases e;have h2:=lbZ h2
    obtain⟨d,rfl⟩:∃d',d=d'+dm:=⟨d - dm,by have:=lbZ h3;lia⟩
    obtain⟨g1,g2⟩:=n.base_take hB (lI W) h2;obtain⟨p1,O',hP,hO,N,p3⟩:=hs _ _ h4;obtain⟨H2,dyn2,b1,b2,p4,p5⟩:=p3 d
    have hc:b9 122 122 st.H=vT W:=by rw [cj,g1,ve]
    have hi2:st.H[2]? =some .ktb:=by
     have a:(st.H.take 122)[2]? =some .ktb:=by rw [g1];kernel_rfl
     rw [ycZ (by lia)]at a
     exact a
    have V:IsView w (ix w 122 l st) 122 l st [] []:=n.mkView (by lia) hi2 g2 fun i o hi ho=>gS (Az W) i o (by rw [←g1,ycZ hi];exact ho)
    rw [h1]
    refine IP ((kQ (hO _ ?_) hP N).C (d+dm)) S hA hh R (hf _) n hi2 V (by rw [hc];exact p4) p5 ?_ p1 hQ
    ·show (((b9 122 122 st.H).zip (l.RL.take 122)).map (·.1)).take 122=vT W
     rw [List.map_fst_zip,hc,List.take_of_length_le (by rw [lI];exact lrZ _)]
     rw [dH g2,yeZ,n.H.len']
     lia
    ·have ea:(⟨l.RL.take 122,l.im,[]⟩:LS).as=l.as.take 122:=by show (l.RL.take 122).map (·.1)=(l.RL.map (·.1)).take 122;rw [yqZ]
     show VRs (⟨l.RL.take 122,l.im,[]⟩:LS).as [] l.im (ci 122 args) zq
     rw [ea];exact VRs.cut (k:=122) (ks':=[]) hv
   ·cases e
  ·cases e
 ·cases e
def UO(f:FI)(dm:Nat)(zv:List MV→Option (List Nat)):aX:=fun a d args st=>match Nat.beq a f.ad with
 |true=>match Nat.ble 122 st.bas,Nat.ble dm d with
  |true,true=>match zv (ci 122 args)with
   |some vs=>some (.ref st.H.length,psh st (.list (iL vs)))
   |none=>none
  |_,_=>none
 |false=>none
theorem z5(f:FI)(dm:Nat)(zv:List MV→Option (List Nat)):ah (UO f dm zv):=by
 intro a d args st v st' e;unfold UO at e;split at e
 ·split at e
  ·split at e
   ·cases e;exact Pres.psh _
   ·cases e
  ·cases e
 ·cases e
theorem z6{W:WP}{f:FI}{dm:Nat}{zv:List MV→Option (List Nat)}(hf:∀P,dT P f)(hs:∀args vs,zv args=some vs→∃O',ah O'∧(∀w',nY w' W→ak w' O')∧∃N,∀d,(aA O' N (d+dm)).cal f args ⟨vT W,[],aD,aD⟩=some (.ref 122,⟨vT W++[.list (iL vs)],[],aD,aD⟩)){w:Wd}(hB:nY w W):ak w (UO f dm zv):=by
 intro d F S A hA hh R m X l st s f' hf' args zq v st' e n hv Q hQ
 replace e:(match Nat.beq f'.ad f.ad with
  |true=>match Nat.ble 122 st.bas,Nat.ble dm d with
   |true,true=>match zv (ci 122 args)with
    |some vs=>some (MV.ref st.H.length,psh st (.list (iL vs)))
    |none=>none
   |_,_=>none
  |false=>none)=some (v,st'):=e
 split at e
 ·rename_i h1;have h1:=ebZ h1;split at e
  ·rename_i h2 h3;split at e
   ·rename_i v0 h4;cases e;have h2:=lbZ h2
    obtain⟨d,rfl⟩:∃d',d=d'+dm:=⟨d - dm,by have:=lbZ h3;lia⟩
    obtain⟨g1,g2⟩:=n.base_take hB (lI W) h2;obtain⟨O',hP,hO,N,p3⟩:=hs _ _ h4
    have hc:b9 122 122 st.H=vT W:=by rw [cj,g1,ve]
    have hi2:st.H[2]? =some .ktb:=by
     have a:(st.H.take 122)[2]? =some .ktb:=by rw [g1];kernel_rfl
     rw [ycZ (by lia)]at a
     exact a
    have V:IsView w (ix w 122 l st) 122 l st [] []:=n.mkView (by lia) hi2 g2 fun i o hi ho=>gS (Az W) i o (by rw [←g1,ycZ hi];exact ho)
    rw [h1]
    refine uJ ((kQ (hO _ ?_) hP N).C (d+dm)) S hA hh R (hf _) n V (by rw [hc];exact p3 d) (by decide) ?_ (fun v hv=>by obtain⟨i,_,rfl⟩:=List.mem_map.mp hv;exact .int _) hQ
    ·show (((b9 122 122 st.H).zip (l.RL.take 122)).map (·.1)).take 122=vT W
     rw [List.map_fst_zip,hc,List.take_of_length_le (by rw [lI];exact lrZ _)]
     rw [dH g2,yeZ,n.H.len']
     lia
    ·have ea:(⟨l.RL.take 122,l.im,[]⟩:LS).as=l.as.take 122:=by show (l.RL.take 122).map (·.1)=(l.RL.map (·.1)).take 122;rw [yqZ]
     show VRs (⟨l.RL.take 122,l.im,[]⟩:LS).as [] l.im _ zq
     rw [ea];exact VRs.cut (k:=122) (ks':=[]) hv
   ·cases e
  ·cases e
 ·cases e
noncomputable def XJ(W:WP):List Nat:=match W.b1 with|true=>[17,16,12]|false=>[17,12]
def Zq(W:WP):List Nat:=match W.b2 with|true=>18::XJ W|false=>[18,16,12]
def XK(W:WP)(s:Nat):List Nat:=match s with
 |16=>[16,12]
 |17=>XJ W
 |18=>Zq W
 |19=>19::Zq W
 |22=>match W.b5 with|true=>[22,16,12]|false=>[22,12]
 |23=>23::XJ W
 |13=>[13,12]
 |_=>[]
noncomputable def XM:FI:=⟨421,st 116⟩
noncomputable def TO:FI:=⟨746,st 157⟩
noncomputable def XN:FI:=⟨414,st 115⟩
noncomputable def TP:List Nat:=[13,16,17,18,19,22,23]
noncomputable def allK:List Nat:=[16,17,18,19,21,22,23,9,13]
noncomputable def wB(W:WP)(b1 b2 b5:Bool):WP:=⟨W.home,b1,b2,b5,W.m1,W.m2,W.m3,W.m4,W.k0,W.k1,W.k2,W.k3,W.k4,W.k5,W.k6,W.a5,W.a7,W.a9,W.a11,W.g⟩
def Zr(W:WP)(args:List MV):Option (List Nat):=aR 71 args fun l=>aN TP l fun s l=>aE l (some (XK W s))
def XO(d:Nat)(s:Nat)(W:WP):MR:=(aA bB 200 (d+12)).cal XM [.ref 71,.int (.ofNat s)] ⟨vT W,[],aD,aD⟩
def XP(s:Nat)(W:WP):MR:=some (.ref 122,⟨vT W++[.list (iL (XK W s))],[],aD,aD⟩)
theorem XQ(d:Nat)(W:WP):∀b2 b1,[16,17,18,19,23,13].map (fun s=>XO d s (wB W b1 b2 W.b5))=[16,17,18,19,23,13].map (fun s=>XP s (wB W b1 b2 W.b5)):=fun b2=>allB _ _ ((by revert b2;apply allB;kernel_rfl))
theorem XR(d:Nat)(W:WP):∀b5,XO d 22 (wB W W.b1 W.b2 b5)=XP 22 (wB W W.b1 W.b2 b5):=allB _ _ (by kernel_rfl)
theorem IQ(W:WP):∀s ∈ TP,∀d,XO d s W=XP s W:=by
 intro s hs d
 by_cases h:s=22
 ·exact h ▸XR d W W.b5
 ·refine ai _ _ _ (XQ d W W.b2 W.b1) s ?_;revert s;decide
theorem IR(W:WP):∀args vs,Zr W args=some vs→∃O',ah O'∧(∀w',nY w' W→ak w' O')∧∃N,∀d,(aA O' N (d+12)).cal XM args ⟨vT W,[],aD,aD⟩=some (.ref 122,⟨vT W++[.list (iL vs)],[],aD,aD⟩):=by
 intro args v;revert args;refine iw ?_
 refine gA fun k h=>?_
 refine ga fun e=>oiZ e ▸?_
 exact⟨bB,bJ,fun w' _=>bI w',200,IQ W k h⟩
def XS(W:WP):aX:=UO XM 12 (Zr W)
theorem IS{w:Wd}{W:WP}(hB:nY w W):ak w (XS W):=z6 Pg (IR W) hB
theorem IT(W:WP):ah (XS W):=z5 _ _ _
noncomputable def XT:List Nat:=[12,13,16,17,18,19,22,23]
def Zs(args:List MV):Option MV:=aR 71 args fun l=>aN XT l fun s l=>aN allK l fun t l=>aY l fun l=>aE l (gd (!(Nat.beq s t)) (some (.bool false)))
theorem IU(W:WP)(d:Nat):∀s ∈ XT,∀t ∈ allK.filter (fun t=> !(Nat.beq s t)),(aA bB 100 (d+10)).cal TO [.ref 71,.int (.ofNat s),.int (.ofNat t),.anyv] ⟨vT W,[],aD,aD⟩=some (.bool false,⟨vT W,[],aD,aD⟩):=fun s hs t ht=>
 ai _ (fun t=>(aA bB 100 (d+10)).cal TO [.ref 71,.int (.ofNat s),.int (.ofNat t),.anyv] ⟨vT W,[],aD,aD⟩) (fun t=>some (.bool false,⟨vT W,[],aD,aD⟩))
  (ai XT (fun s=>(allK.filter fun t=> !(Nat.beq s t)).map fun t=>(aA bB 100 (d+10)).cal TO [.ref 71,.int (.ofNat s),.int (.ofNat t),.anyv] ⟨vT W,[],aD,aD⟩) (fun s=>(allK.filter fun t=> !(Nat.beq s t)).map fun t=>some (.bool false,⟨vT W,[],aD,aD⟩)) (by kernel_rfl) s hs) t ht
theorem IV(W:WP):∀args v,Zs args=some v→Pz v∧rp W TO 10 args v:=by
 intro args v;revert args;refine iw ?_
 refine gA fun s h1=>?_
 refine gA fun t h2=>?_
 refine aYP ?_
 refine ga fun e=>oiZ (fU e).2 ▸?_
 exact⟨.bool _,bB,bJ,fun w' _=>bI w',100,fun d=>⟨_,_,_,_,IU W d s h1 t (List.mem_filter.mpr ⟨h2,(fU e).1⟩),lbZ rfl⟩⟩
def XU:aX:=zZ TO 10 Zs
theorem IW{w:Wd}{W:WP}(hB:nY w W):ak w XU:=eY Pk (IV W) hB
theorem IY:ah XU:=eX _ _ _
def Zt(args:List MV):Option MV:=aR 71 args fun l=>aN allK l fun t l=>aE l (some (.bool false))
theorem IZ(W:WP)(d:Nat):∀t ∈ allK,(aA bB 100 (d+10)).cal XN [.ref 71,.int (.ofNat t)] ⟨vT W,[],aD,aD⟩=some (.bool false,⟨vT W,[],aD,aD⟩):=ai _ _ _ (by kernel_rfl)
theorem I0(W:WP):∀args v,Zt args=some v→Pz v∧rp W XN 10 args v:=by
 intro args v;revert args;refine iw ?_
 refine gA fun t h=>?_
 refine ga fun e=>oiZ e ▸?_
 exact⟨.bool _,bB,bJ,fun w' _=>bI w',100,fun d=>⟨_,_,_,_,IZ W d t h,lbZ rfl⟩⟩
def XV:aX:=zZ XN 10 Zt
theorem vf{w:Wd}{W:WP}(hB:nY w W):ak w XV:=eY Pf (I0 W) hB
theorem I1:ah XV:=eX _ _ _
def UP(W:WP):aX:=gk bB (gk (XS W) (gk XU XV))
theorem I3{w:Wd}{W:WP}(hB:nY w W):ak w (UP W):=ac (bI w) (ac (IS hB) (ac (IW hB) (vf hB)))
theorem I4(W:WP):ah (UP W):=ae bJ (ae (IT W) (ae IY I1))
noncomputable def Zu:FI:=⟨905,st 171⟩
def z8(W:WP)(s t:Nat):Bool:=b2 (Nat.beq s t) true (lB t (XK W s))
noncomputable def fbD(s t:Nat):List MV:=match Nat.beq s t with
 |true=>[]
 |false=>match s with
  |21=>[.tup [.int 8,.int 21]]
  |9=>[.tup [.int 8,.int 9]]
  |_=>[]
def Zv(d s:Nat)(W:WP)(t:Nat):MR:=(aA (UP W) 300 (d+24)).cal Zu [.ref 71,.int (.ofNat s),.int (.ofNat t),.int 0] ⟨vT W,[],aD,aD⟩
def Zw(s:Nat)(W:WP)(t:Nat):MR:=some (.bool (z8 W s t),⟨vT W,fbD s t,aD,aD⟩)
def lJ(d s:Nat)(W:WP)(b1 b2 b5:Bool):List MR:=allK.map (Zv d s (wB W b1 b2 b5))
def lK(s:Nat)(W:WP)(b1 b2 b5:Bool):List MR:=allK.map (Zw s (wB W b1 b2 b5))
theorem TR(d:Nat)(W:WP):lJ d 16 W W.b1 W.b2 W.b5=lK 16 W W.b1 W.b2 W.b5:=by kernel_rfl
theorem TU(d:Nat)(W:WP):lJ d 21 W W.b1 W.b2 W.b5=lK 21 W W.b1 W.b2 W.b5:=by kernel_rfl
theorem XW(d:Nat)(W:WP):lJ d 9 W W.b1 W.b2 W.b5=lK 9 W W.b1 W.b2 W.b5:=by kernel_rfl
theorem TV(d:Nat)(W:WP):lJ d 13 W W.b1 W.b2 W.b5=lK 13 W W.b1 W.b2 W.b5:=by kernel_rfl
theorem TX(d:Nat)(W:WP):lJ d 17 W W.b1 W.b2 W.b5=lK 17 W W.b1 W.b2 W.b5:=allB (fun b=>lJ d 17 W b W.b2 W.b5) (fun b=>lK 17 W b W.b2 W.b5) (by kernel_rfl) W.b1
theorem TY(d:Nat)(W:WP):lJ d 23 W W.b1 W.b2 W.b5=lK 23 W W.b1 W.b2 W.b5:=allB (fun b=>lJ d 23 W b W.b2 W.b5) (fun b=>lK 23 W b W.b2 W.b5) (by kernel_rfl) W.b1
theorem TZ(d:Nat)(W:WP):lJ d 22 W W.b1 W.b2 W.b5=lK 22 W W.b1 W.b2 W.b5:=allB (fun b=>lJ d 22 W W.b1 W.b2 b) (fun b=>lK 22 W W.b1 W.b2 b) (by kernel_rfl) W.b5
theorem T1(d:Nat)(W:WP):lJ d 18 W W.b1 W.b2 W.b5=lK 18 W W.b1 W.b2 W.b5:=allB (fun b=>lJ d 18 W b W.b2 W.b5) (fun b=>lK 18 W b W.b2 W.b5) (allB (fun c=>[lJ d 18 W true c W.b5,lJ d 18 W false c W.b5]) (fun c=>[lK 18 W true c W.b5,lK 18 W false c W.b5]) (by kernel_rfl) W.b2) W.b1
theorem T3(d:Nat)(W:WP):lJ d 19 W W.b1 W.b2 W.b5=lK 19 W W.b1 W.b2 W.b5:=allB (fun b=>lJ d 19 W b W.b2 W.b5) (fun b=>lK 19 W b W.b2 W.b5) (allB (fun c=>[lJ d 19 W true c W.b5,lJ d 19 W false c W.b5]) (fun c=>[lK 19 W true c W.b5,lK 19 W false c W.b5]) (by kernel_rfl) W.b2) W.b1
theorem I5(W:WP)(d:Nat):∀s ∈ allK,∀t ∈ allK,Zv d s W t=Zw s W t:=fun s hs=>ai _ _ _ (show lJ d s W W.b1 W.b2 W.b5=lK s W W.b1 W.b2 W.b5 by
 simp only [allK,yhZ,ygZ,or_false]at hs;rcases hs with rfl|rfl|rfl|rfl|rfl|rfl|rfl|rfl|rfl
 ·exact TR d W
 ·exact TX d W
 ·exact T1 d W
 ·exact T3 d W
 ·exact TU d W
 ·exact TZ d W
 ·exact TY d W
 ·exact XW d W
 ·exact TV d W)
noncomputable def XX:FI:=⟨622,sm 141 6⟩
noncomputable def XY:FI:=⟨919,st 173⟩
def J4(k:Nat):Bool:=aQ k [19,21,9]
def Zx(args:List MV):Option MV:=aR 71 args fun l=>aN allK l fun k l=>aE l (some (.bool (J4 k)))
def wK(W:WP)(i:Nat)(b:Bool):WP:=⟨W.home,W.b1,W.b2,W.b5,W.m1,W.m2,W.m3,W.m4,b2 (Nat.beq i 0) b W.k0,b2 (Nat.beq i 1) b W.k1,b2 (Nat.beq i 2) b W.k2,b2 (Nat.beq i 3) b W.k3,W.k4,b2 (Nat.beq i 5) b W.k5,b2 (Nat.beq i 6) b W.k6,W.a5,W.a7,W.a9,W.a11,W.g⟩
def J5(d k:Nat)(W:WP):MR:=(aA bB 150 (d+12)).cal XX [.ref 71,.int (.ofNat k)] ⟨vT W,[],aD,aD⟩
def T4(k:Nat)(W:WP):MR:=some (.bool (J4 k),⟨vT W,[],aD,aD⟩)
theorem T5(d:Nat)(W:WP):∀k ∈ [21,9,13],J5 d k W=T4 k W:=ai _ _ _ (by kernel_rfl)
theorem XZ(d:Nat)(W:WP):∀p ∈ [(0,16),(1,17),(2,18),(3,19),(5,22),(6,23)],[J5 d p.2 (wK W p.1 true),J5 d p.2 (wK W p.1 false)]=[T4 p.2 (wK W p.1 true),T4 p.2 (wK W p.1 false)]:=ai _ _ _ (by kernel_rfl)
theorem rt(d:Nat)(W:WP){i k:Nat}(h:(i,k) ∈ [(0,16),(1,17),(2,18),(3,19),(5,22),(6,23)]):∀b,J5 d k (wK W i b)=T4 k (wK W i b):=allB (fun b=>J5 d k (wK W i b)) _ (XZ d W (i,k) h)
theorem I6(W:WP)(d:Nat):∀k ∈ allK,J5 d k W=T4 k W:=by
 intro k hk;simp only [allK,yhZ,ygZ,or_false]at hk;rcases hk with rfl|rfl|rfl|rfl|rfl|rfl|rfl|hk
 ·exact rt d W (i:=0) (by decide) W.k0
 ·exact rt d W (i:=1) (by decide) W.k1
 ·exact rt d W (i:=2) (by decide) W.k2
 ·exact rt d W (i:=3) (by decide) W.k3
 ·exact T5 d W _ (by decide)
 ·exact rt d W (i:=5) (by decide) W.k5
 ·exact rt d W (i:=6) (by decide) W.k6
 ·exact T5 d W k (by rcases hk with rfl|rfl <;>decide)
theorem I7(W:WP):∀args v,Zx args=some v→Pz v∧rp W XX 12 args v:=by
 intro args v;revert args;refine iw ?_
 refine gA fun k h=>?_
 refine ga fun e=>oiZ e ▸?_
 exact⟨.bool _,bB,bJ,fun w' _=>bI w',150,fun d=>⟨_,_,_,_,I6 W d k h,lbZ rfl⟩⟩
def X0:aX:=zZ XX 12 Zx
theorem I8{w:Wd}{W:WP}(hB:nY w W):ak w X0:=eY Pq (I7 W) hB
theorem I9:ah X0:=eX _ _ _
def Zy(args:List MV):Option MV:=aR 71 args fun l=>aR 0 l fun l=>aN allK l fun k l=>aE l (some (.int 0))
theorem Ia(W:WP)(d:Nat):∀k ∈ allK,(aA bB 200 (d+14)).cal XY [.ref 71,.ref 0,.int (.ofNat k)] ⟨vT W,[],aD,aD⟩=some (.int 0,⟨vT W,[],aD,aD⟩):=ai _ _ _ (by kernel_rfl)
theorem Ib(W:WP):∀args v,Zy args=some v→Pz v∧rp W XY 14 args v:=by
 intro args v;revert args;refine iw ?_;refine iw ?_
 refine gA fun k h=>?_
 refine ga fun e=>oiZ e ▸?_
 exact⟨.int _,bB,bJ,fun w' _=>bI w',200,fun d=>⟨_,_,_,_,Ia W d k h,lbZ rfl⟩⟩
def X3:aX:=zZ XY 14 Zy
theorem Ic{w:Wd}{W:WP}(hB:nY w W):ak w X3:=eY Po (Ib W) hB
theorem Ie:ah X3:=eX _ _ _
def f1S(s t:Nat)(b:Bool)(args:List MV):Option MV:=aR 71 args fun l=>aN [s] l fun _ l=>aN [t] l fun _ l=>aN [0] l fun _ l=>aE l (some (.bool b))
def Zz(s t:Nat)(b:Bool):aX:=zZ Zu 24 (f1S s t b)
theorem Ig{w:Wd}{W:WP}(hB:nY w W){s t:Nat}(hs:s ∈ allK)(ht:t ∈ allK):ak w (Zz s t (z8 W s t)):=by
 refine eY Pm (fun args v=>?_) hB
 revert args;refine iw ?_
 refine gA fun s' h1=>?_
 refine gA fun t' h2=>?_
 refine gA fun z h3=>?_
 refine ga fun e=>oiZ e ▸?_
 obtain rfl:=msZ h1;obtain rfl:=msZ h2;obtain rfl:=msZ h3
 exact⟨.bool _,UP W,I4 W,fun w' h=>I3 h,300,fun d=>⟨_,_,_,_,I5 W d _ hs _ ht,lbZ rfl⟩⟩
def UQ(s t:Nat)(b:Bool):aX:=gk bB (gk X0 (Zz s t b))
theorem Ii{w:Wd}{W:WP}(hB:nY w W){s t:Nat}(hs:s ∈ allK)(ht:t ∈ allK):ak w (UQ s t (z8 W s t)):=ac (bI w) (ac (I8 hB) (Ig hB hs ht))
theorem Ij(s t:Nat)(b:Bool):ah (UQ s t b):=ae bJ (ae I9 (eX _ _ _))
noncomputable def X4:FI:=⟨912,st 172⟩
def nS(W:WP)(k f:Nat):Bool:=match W.g with
 |0=>aQ k [16,17,18,19,22,23,13]
 |1=>aQ k [9,21]
 |2=>J4 k
 |3=>z8 W k 16
 |4=>z8 W k f
 |_=>b2 (J4 k) (z8 W k 17) false
noncomputable def Ik(g f:Nat):Nat:=match g with
 |4=>f
 |5=>17
 |_=>16
def Il(g k:Nat)(b:Bool):Bool:=match g with
 |0=>aQ k [16,17,18,19,22,23,13]
 |1=>aQ k [9,21]
 |2=>J4 k
 |3=>b
 |4=>b
 |_=>b2 (J4 k) b false
noncomputable def wG(W:WP)(g:Nat):WP:=⟨W.home,W.b1,W.b2,W.b5,W.m1,W.m2,W.m3,W.m4,W.k0,W.k1,W.k2,W.k3,W.k4,W.k5,W.k6,W.a5,W.a7,W.a9,W.a11,g⟩
def Im(d:Nat)(W:WP)(f k:Nat)(b:Bool):MR:=(aA (UQ k (Ik W.g f) b) 150 (d+27)).cal X4 [.ref 71,.ref 121,.tup [.int (.ofNat k)],.tup [.int (.ofNat f)],.tup [.int (.ofNat k)]] ⟨vT W,[],aD,aD⟩
def Io(W:WP)(k:Nat)(b:Bool):MR:=some (.int (b2 (Il W.g k b) 0 8),⟨vT W,[],aD,aD⟩)
theorem X5(d:Nat)(W:WP)(f:Nat):∀g ∈ [0,1,2,3,5],(allK.map fun k=>[Im d (wG W g) f k true,Im d (wG W g) f k false])=allK.map fun k=>[Io (wG W g) k true,Io (wG W g) k false]:=ai _ _ _ (by kernel_rfl)
theorem X6(d:Nat)(W:WP):∀f ∈ allK,(allK.map fun k=>[Im d (wG W 4) f k true,Im d (wG W 4) f k false])=allK.map fun k=>[Io (wG W 4) k true,Io (wG W 4) k false]:=ai _ _ _ (by kernel_rfl)
theorem ltM{n k:Nat}(h:n < k):n ∈ List.range k:=mgZ h
theorem T6(W:WP)(hg:W.g < 6)(k f:Nat):Il W.g k (z8 W k (Ik W.g f))=nS W k f:=ai (List.range 6) (fun g=>Il g k (z8 (wG W g) k (Ik g f))) (fun g=>nS (wG W g) k f) (by kernel_rfl) W.g (ltM hg)
theorem T7{g f:Nat}(hf:f ∈ allK):Ik g f ∈ allK:=by
 unfold Ik;split
 ·exact hf
 ·decide
 ·decide
theorem Ip(W:WP)(d:Nat)(hg:W.g < 6){k f:Nat}(hk:k ∈ allK)(hf:f ∈ allK)(b:Bool):Im d W f k b=Io W k b:=by
 refine allB _ _ (ai allK (fun k=>[Im d (wG W W.g) f k true,Im d (wG W W.g) f k false]) (fun k=>[Io (wG W W.g) k true,Io (wG W W.g) k false]) ?_ k hk) b
 by_cases h:W.g=4
 ·exact h ▸X6 d W f hf
 ·refine X5 d W f W.g ?_;have:=ltM hg;generalize W.g=g at *;revert g;decide
def kq(x:MV):Option Nat:=match x with
 | .tup l=>aN allK l fun k l=>aE l (some k)
 |_=>none
theorem T8(x:MV)(k:Nat)(e:kq x=some k):x=.tup [.int (.ofNat k)]∧k ∈ allK:=by
 unfold kq at e;split at e
 ·rename_i l
  exact gA (P:=fun l=>MV.tup l=.tup [.int (.ofNat k)]∧k ∈ allK) (fun n hn _=>ga (P:=fun l=>MV.tup (.int (.ofNat n)::l)=.tup [.int (.ofNat k)]∧k ∈ allK) (GB (P:=fun k=>MV.tup [.int (.ofNat n)]=.tup [.int (.ofNat k)]∧k ∈ allK) ⟨rfl,hn⟩) _) l e
 ·exact aF e
def bkS(W:WP)(args:List MV):Option MV:=aR 71 args fun l=>aR 121 l fun l=>aB kq l fun k l=>aB kq l fun f l=>aB kq l fun k' l=>aE l (gd (Nat.beq k' k) (some (.int (b2 (nS W k f) 0 8))))
theorem Iq(W:WP)(hg:W.g < 6):∀args v,bkS W args=some v→Pz v∧rp W X4 27 args v:=by
 intro args v;revert args;refine iw ?_;refine iw ?_
 refine wA (fun x k h=>(T8 x k h).1) fun x k l hk=>?_
 revert l
 refine wA (fun x k h=>(T8 x k h).1) fun x f l hf=>?_
 revert l
 refine wA (fun x k h=>(T8 x k h).1) fun x k' l _=>?_
 revert l
 refine ga fun e=>oiZ (fU e).2 ▸?_
 have hk:=(T8 _ _ hk).2;have hf:=(T8 _ _ hf).2;rw [Nat.eq_of_beq_eq_true (fU e).1,←T6 W hg]
 exact⟨.int _,UQ k (Ik W.g f) (z8 W k (Ik W.g f)),Ij _ _ _,fun w' h=>Ii h hk (T7 hf),150,fun d=>⟨_,_,_,_,Ip W d hg hk hf _,lbZ rfl⟩⟩
def X7(W:WP):aX:=zZ X4 27 (bkS W)
theorem Ir{w:Wd}{W:WP}(hg:W.g < 6)(hB:nY w W):ak w (X7 W):=eY Pn (Iq W hg) hB
theorem It(W:WP):ah (X7 W):=eX _ _ _
noncomputable def z9:FI:=⟨1008,st 188⟩
def eu:Cx:=(fS (st 188)).names
def dU(k:Nat):List Stmt:=(fB (st 188)).drop k
noncomputable def ru:FI:=⟨947,st 178⟩
noncomputable def T9:FI:=⟨1003,st 187⟩
def eZ(x y:Nat)(c:Int)(tl:Loc):Loc:=(sO "host",.ref 71)::(sO "world",cb)::(sO "methods",.ref 78)::(sO "x",iN x)::(sO "y",iN y)::(sO "c",.int c)::tl
def fx(tl:Loc):Loc:=(sO "kinds",.ref 77)::(sO "kt",.ref 2)::(sO "ups",.ref 124)::tl
def J(j:Bool):List MO:=b2 j [.list [.int 9,.int 13]] []
def D1(jx:Bool)(W:WP)(own:Int)(f:Nat→List Nat):MS:=⟨eq W own++g6 124 f++J jx,[],aD,aD⟩
def D2(jx jy:Bool)(W:WP)(own:Int)(f:Nat→List Nat):MS:=⟨eq W own++g6 124 f++J jx++J jy,[],aD,aD⟩
def D3(jx jy:Bool)(W:WP)(own:Int)(f:Nat→List Nat)(dyn:List MV):MS:=⟨eq W own++g6 124 f++J jx++J jy++[.list [.int 11]],dyn,aD,aD⟩
noncomputable def c4(x:Nat):Nat:=match x with
 |0=>16
 |1=>17
 |2=>18
 |3=>19
 |4=>21
 |5=>22
 |6=>23
 |7=>9
 |_=>13
def BB(W:WP):aX:=gk bB (gk X3 (X7 W))
theorem zd{w:Wd}{W:WP}(hg:W.g < 6)(hB:sB w W):ak w (BB W):=ac (bI w) (ac (Ic (BA hB)) (Ir hg (BA hB)))
theorem ze(W:WP):ah (BB W):=ae bJ (ae Ie (It W))
section
variable(O:aX)(n D:Nat)(S:MS)(x y:Nat)(c:Int)(W:WP)(own:Int)(f:Nat→List Nat)(dyn:List MV)(at' fi se:MV)(jx jy:Bool)
theorem d0:(aA O (n+20) D).run eu [.stm (dU 0)] (eZ x y c []) (A1 W own [])=(aA O (n+18) D).run eu [.stm (dU 2)] (eZ x y c [(sO "kinds",.ref 77),(sO "kt",.ref 2)]) (A1 W own []):=by kernel_rfl
theorem d2e:(aA O (n+8) D).ev eu (eZ x y c [(sO "kinds",.ref 77),(sO "kt",.ref 2)]) S (bY (dU 2))=(aA O (n+7) D).cal sC [.ref 75] S:=by kernel_rfl
theorem d2a:bL (aA O n D) eu (eZ x y c [(sO "kinds",.ref 77),(sO "kt",.ref 2)]) S (dj (dU 2)) (.ref 124)=some (eZ x y c (fx []),S):=by kernel_rfl
theorem d3t(hx:x < 9)(tl:List Stmt):(aA O (n+12) D).run eu [.stm (fD (dU 3)::tl)] (eZ x y c (fx [])) (A2 W own [] f)=(aA O (n+11) D).run eu [.stm tl] (eZ x y c (fx [(sO "first",iN (c4 x))])) (D1 (Nat.blt 6 x) W own f):=
 (by revert x;apply lR 9;kernel_rfl)
theorem d3(hx:x < 9):(aA O (n+12) D).run eu [.stm (dU 3)] (eZ x y c (fx [])) (A2 W own [] f)=(aA O (n+11) D).run eu [.stm (dU 4)] (eZ x y c (fx [(sO "first",iN (c4 x))])) (D1 (Nat.blt 6 x) W own f):=
 (congrArg (fun s=>(aA O (n+12) D).run eu [.stm s] (eZ x y c (fx [])) (A2 W own [] f)) (by kernel_rfl:dU 3=fD (dU 3)::dU 4)).trans (d3t O n D x y c W own f hx (dU 4))
theorem d4t(hy:y < 9)(tl:List Stmt):(aA O (n+12) D).run eu [.stm (fD (dU 4)::tl)] (eZ x y c (fx [(sO "first",fi)])) (D1 jx W own f)=(aA O (n+11) D).run eu [.stm tl] (eZ x y c (fx [(sO "first",fi),(sO "second",iN (c4 y))])) (D2 jx (Nat.blt 6 y) W own f):=
 (by revert y;revert jx;apply Ad 9;kernel_rfl)
theorem d4(hy:y < 9):(aA O (n+12) D).run eu [.stm (dU 4)] (eZ x y c (fx [(sO "first",fi)])) (D1 jx W own f)=(aA O (n+11) D).run eu [.stm (dU 5)] (eZ x y c (fx [(sO "first",fi),(sO "second",iN (c4 y))])) (D2 jx (Nat.blt 6 y) W own f):=
 (congrArg (fun s=>(aA O (n+12) D).run eu [.stm s] (eZ x y c (fx [(sO "first",fi)])) (D1 jx W own f)) (by kernel_rfl:dU 4=fD (dU 4)::dU 5)).trans (d4t O n D x y c W own f fi jx hy (dU 5))
theorem d5t(tl:List Stmt):(aA O (n+12) D).run eu [.stm (fD (dU 5)::tl)] (eZ x y c (fx [(sO "first",fi),(sO "second",se)])) (D2 jx jy W own f)=(aA O (n+11) D).run eu [.stm tl] (eZ x y c (fx [(sO "first",fi),(sO "second",se),(sO "mid",.int 11)])) (D3 jx jy W own f []):=
 (by revert jx jy;apply nD;kernel_rfl)
theorem d5:(aA O (n+12) D).run eu [.stm (dU 5)] (eZ x y c (fx [(sO "first",fi),(sO "second",se)])) (D2 jx jy W own f)=(aA O (n+11) D).run eu [.stm (dU 6)] (eZ x y c (fx [(sO "first",fi),(sO "second",se),(sO "mid",.int 11)])) (D3 jx jy W own f []):=
 (congrArg (fun s=>(aA O (n+12) D).run eu [.stm s] (eZ x y c (fx [(sO "first",fi),(sO "second",se)])) (D2 jx jy W own f)) (by kernel_rfl:dU 5=fD (dU 5)::dU 6)).trans (d5t O n D x y c W own f fi se jx jy (dU 6))
theorem d6e:(aA O (n+8) D).ev eu (eZ x y c (fx [(sO "first",fi),(sO "second",se),(sO "mid",.int 11)])) S (bY (dU 6))=(aA O (n+7) D).cal wL [.ref 2,.int 66,.tup [fi]] S:=by kernel_rfl
theorem d6a:bL (aA O n D) eu (eZ x y c (fx [(sO "first",fi),(sO "second",se),(sO "mid",.int 11)])) S (dj (dU 6)) at'=some (eZ x y c (fx [(sO "first",fi),(sO "second",se),(sO "mid",.int 11),(sO "at",at')]),S):=by kernel_rfl
theorem d7t:(aA O (n+9) D).tst eu (eZ x y c (fx [(sO "first",fi),(sO "second",se),(sO "mid",.int 11),(sO "at",at')])) S (aq (dU 7))=J0 .NotEq ((aA O (n+7) D).cal ru [.ref 71,.tup [at',.int 11,.tup [se]]] S) (fun st=>(aA O (n+7) D).cal T9 [.ref 124,iN x,iN y,.int (c % 6)] st):=by kernel_rfl
theorem d7B(K:List Itm)(zl:Loc):(aA O (n+4) D).run eu (.stm (dp (dU 7))::K) zl S=(aA O (n+3) D).run eu K zl S:=by kernel_rfl
def Iu(r:MR):MR:=match r with
 |some (a,st)=>(fR st a).map fun b=>(.bool (!b),st)
 |none=>none
def UR(k:Nat):xpZ:=aW (cY (iz (dU 8))) k
theorem d8:(aA O (n+12) D).ev eu (eZ x y c (fx [(sO "first",fi),(sO "second",se),(sO "mid",.int 11),(sO "at",at')])) S (iz (dU 8))=dW (aA O (n+11) D) eu (eZ x y c (fx [(sO "first",fi),(sO "second",se),(sO "mid",.int 11),(sO "at",at')])) .And S [UR 0,UR 1]:=by kernel_rfl
theorem d80:(aA O (n+11) D).ev eu (eZ x y c (fx [(sO "first",fi),(sO "second",se),(sO "mid",.int 11),(sO "at",at')])) S (UR 0)=Iu ((aA O (n+9) D).cal ru [.ref 71,.tup [at',.int 11,.tup []]] S):=by kernel_rfl
theorem d81:(aA O (n+11) D).ev eu (eZ x y c (fx [(sO "first",fi),(sO "second",se),(sO "mid",.int 11),(sO "at",at')])) S (UR 1)=Iu ((aA O (n+9) D).cal ru [.ref 71,.tup [at',.int 12,.tup [se]]] S):=by kernel_rfl
theorem d_c:(aA O (n+201) (D+1)).cal z9 [.ref 71,cb,.ref 78,iN x,iN y,.int c] S=match O 1008 (D+1) [.ref 71,cb,.ref 78,iN x,iN y,.int c] S with
  |some r=>some r
  |none=>aL S ((aA O (n+200) D).run eu [.stm (dU 0)] (eZ x y c []) ⟨S.H,S.dyn,aD,S.bas⟩):=by kernel_rfl
end
section
variable(W:WP)(own:Int)(f:Nat→List Nat)(n d:Nat){y:Nat}
theorem dck(jy:Bool)(hx:x < 9):(aA (BB W) (n+31) (d+12)).cal wL [.ref 2,.int 66,.tup [iN (c4 x)]] (D3 (Nat.blt 6 x) jy W own f [])=some (df 2 x [],D3 (Nat.blt 6 x) jy W own f (bz 2 x [])):=
 (by revert x;revert jy;apply Ad 9;kernel_rfl)
theorem Iv(hx:x < 9)(hy:y < 9):(aA (BB W) (n+101) (d+30)).cal ru [.ref 71,.tup [df 2 x [],.int 11,.tup [iN (c4 y)]]] (D3 (Nat.blt 6 x) (Nat.blt 6 y) W own f (bz 2 x []))=some (.bool (eqB (b2 (nS W (c4 y) (c4 x)) 0 8) 0),D3 (Nat.blt 6 x) (Nat.blt 6 y) W own f (bz 2 x [])):=
 ai (uj (List.range 9) (List.range 9)) (fun q=>(aA (BB W) (n+101) (d+30)).cal ru [.ref 71,.tup [df 2 q.1 [],.int 11,.tup [iN (c4 q.2)]]] (D3 (Nat.blt 6 q.1) (Nat.blt 6 q.2) W own f (bz 2 q.1 []))) (fun q=>some (.bool (eqB (b2 (nS W (c4 q.2) (c4 q.1)) 0 8) 0),D3 (Nat.blt 6 q.1) (Nat.blt 6 q.2) W own f (bz 2 q.1 []))) (by kernel_rfl) (x,y) (bu (mgZ hx) (mgZ hy))
theorem X8(jy:Bool)(hx:x < 9):(aA (BB W) (n+101) (d+30)).cal ru [.ref 71,.tup [df 2 x [],.int 11,.tup []]] (D3 (Nat.blt 6 x) jy W own f (bz 2 x []))=some (.bool false,D3 (Nat.blt 6 x) jy W own f (bz 2 x [])):=
 (by revert x;revert jy;apply Ad 9;kernel_rfl)
theorem X9(jy:Bool)(se:MV)(hx:x < 9):(aA (BB W) (n+101) (d+30)).cal ru [.ref 71,.tup [df 2 x [],.int 12,.tup [se]]] (D3 (Nat.blt 6 x) jy W own f (bz 2 x []))=some (.bool false,D3 (Nat.blt 6 x) jy W own f (bz 2 x [])):=
 (by revert x;revert jy;apply Ad 9;kernel_rfl)
end
def Ta:Cx:=(fS (st 187)).names
def Tb:List Stmt:=fB (st 187)
def Tc(x y g:Nat):Loc:=[(sO "ups",.ref 124),(sO "x",iN x),(sO "y",iN y),(sO "c",iN g)]
def J6(f:Nat→List Nat)(g x y:Nat):Bool:=match g with
 |0=>b2 (Nat.beq y 8) true (b2 (Nat.blt y 7) (!(Nat.beq y 4)) false)
 |1=>b2 (Nat.beq y 7) true (Nat.beq y 4)
 |2=>b2 (Nat.beq y 7) true (b2 (Nat.beq y 4) true (Nat.beq y 3))
 |3=>b2 (Nat.blt y 7) (lB 0 (f y)) false
 |4=>b2 (Nat.beq x y) true (b2 (an (Nat.blt x 7) (Nat.blt y 7)) (lB x (f y)) false)
 |_=>b2 (Nat.beq y 3) (lB 1 (f 3)) false
def Td(S:MS)(k y:Nat):MR:=RU .In (some (iN k,S)) (fun s=>jn s 124 (.ofNat y))
def US(S:MS)(g x y:Nat):MR:=match g with
 |3=>b2 (Nat.blt y 7) (Td S 0 y) (some (.bool false,S))
 |4=>b2 (Nat.beq x y) (some (.bool true,S)) (b2 (an (Nat.blt x 7) (Nat.blt y 7)) (Td S x y) (some (.bool false,S)))
 |5=>b2 (Nat.beq y 3) (Td S 1 3) (some (.bool false,S))
 |g=>some (.bool (J6 (fun _=>[]) g x y),S)
section
variable(O:aX)(n D:Nat)(S:MS){y g:Nat}
theorem Xa(x:Nat):∀q ∈ uj [0,1,2,3,5] (List.range 9),(aA O (n+30) D).run Ta [.stm Tb] (Tc x q.2 q.1) S=US S q.1 x q.2:=
 ai (uj [0,1,2,3,5] (List.range 9)) _ _ (by kernel_rfl)
theorem Xb:∀q ∈ uj (List.range 9) (List.range 9),(aA O (n+30) D).run Ta [.stm Tb] (Tc q.1 q.2 4) S=US S 4 q.1 q.2:=
 ai (uj (List.range 9) (List.range 9)) _ _ (by kernel_rfl)
theorem Iw(hg:g < 6)(hx:x < 9)(hy:y < 9):(aA O (n+30) D).run Ta [.stm Tb] (Tc x y g) S=US S g x y:=by
 have y1:=mgZ hy
 rcases (by decide:∀g ∈ List.range 6,g ∈ [0,1,2,3,5]∨g=4) g (mgZ hg)with h|rfl
 ·exact Xa O n D S x (g,y) (bu h y1)
 ·exact Xb O n D S (x,y) (bu (mgZ hx) y1)
theorem Xc:(aA O (n+31) (D+1)).cal T9 [.ref 124,iN x,iN y,iN g] S=match O 1003 (D+1) [.ref 124,iN x,iN y,iN g] S with
  |some r=>some r
  |none=>aL S ((aA O (n+30) D).run Ta [.stm Tb] (Tc x y g) ⟨S.H,S.dyn,aD,S.bas⟩):=by kernel_rfl
variable{O n D S}{f:Nat→List Nat}
theorem Ix{k y:Nat}(hy:y < 7)(hu:aH S.H 124=some (.list [.ref 125,.ref 126,.ref 127,.ref 128,.ref 129,.ref 130,.ref 131]))(hs:∀i,i < 7→aH S.H (125+i)=some (.list (iL (f i)))):Td S k y=some (.bool (lB k (f y)),S):=by
 show (match jn S 124 (.ofNat y)with|some (b,st)=>(ck st .In (.int (.ofNat k)) b).map fun c=>(MV.bool c,st)|none=>none)=_
 rw [cV (g7 hu (vG (k:=124) hy))]
 show (ck S .In (.int (.ofNat k)) (.ref (125+y))).map _=_
 rw [Wa (hs y hy)];rfl
theorem Iy{b z:Bool}{X:MR}{S:MS}(h:b=true→X=some (.bool z,S)):b2 b X (some (.bool false,S))=some (.bool (b2 b z false),S):=match b,h with
 |true,h=>h rfl
 |false,_=>rfl
theorem Xd{b z:Bool}{X:MR}{S:MS}(h:X=some (.bool z,S)):b2 b (some (.bool true,S)) X=some (.bool (b2 b true z),S):=match b with
 |true=>rfl
 |false=>h
theorem Xe{p q:Bool}(h:an p q=true):q=true:=match p,h with
 |true,h=>h
theorem c6{P:Nat→Prop}(h0:P 0)(h1:P 1)(h2:P 2)(h3:P 3)(h4:P 4)(h5:P 5):∀i,i < 6→P i:=fun i h=>(fcZ ⟨h0,fcZ ⟨h1,fcZ ⟨h2,fcZ ⟨h3,fcZ ⟨h4,fcZ ⟨h5,(fun _ h=>nomatch h)⟩⟩⟩⟩⟩⟩:∀i ∈ List.range 6,P i) i (mgZ h)
theorem Xf(q:∀k y:Nat,Nat.blt y 7=true→Td S k y=some (.bool (lB k (f y)),S))(x y:Nat):∀g,g < 6→US S g x y=some (.bool (J6 f g x y),S):=
 c6 rfl rfl rfl (Iy (q 0 y)) (Xd (Iy fun h=>q x y (Xe h))) (Iy fun _=>q 1 3 rfl)
theorem Iz(hO:∀d x s,O 1003 d x s=none)(hl:S.H.length≤aD)(hg:g < 6)(hx:x < 9)(hy:y < 9)(hu:aH S.H 124=some (.list [.ref 125,.ref 126,.ref 127,.ref 128,.ref 129,.ref 130,.ref 131]))(hs:∀i,i < 7→aH S.H (125+i)=some (.list (iL (f i)))):
  (aA O (n+31) (D+1)).cal T9 [.ref 124,iN x,iN y,iN g] S=some (.bool (J6 f g x y),S):=by
 rw [Xc,hO]
 show aL S ((aA O (n+30) D).run Ta [.stm Tb] (Tc x y g) ⟨S.H,S.dyn,aD,S.bas⟩)=_
 exact (congrArg (aL S) ((Iw O n D _ hg hx hy).trans (Xf (S:=⟨S.H,S.dyn,aD,S.bas⟩) (fun k y h=>Ix (blt_iff.mp h) hu hs) x y g hg))).trans (cW rfl hl)
end
noncomputable def wBg(W:WP)(b:Bool×Bool×Bool)(g:Nat):WP:={W with b1:=b.1,b2:=b.2.1,b5:=b.2.2,g:=g}
theorem Te(W:WP):∀g ∈ List.range 6,(bs3.map fun b=>(uj (List.range 9) (List.range 9)).map fun q=>nS (wBg W b g) (c4 q.2) (c4 q.1))=bs3.map fun b=>(uj (List.range 9) (List.range 9)).map fun q=>J6 (aO (wBg W b g)) g q.1 q.2:=
 ai (List.range 6) _ _ (by kernel_rfl)
theorem pl3(W:WP)(hg:W.g < 6){x y:Nat}(hx:x < 9)(hy:y < 9):nS W (c4 y) (c4 x)=J6 (aO W) W.g x y:=
 List.map_inj_left.mp (List.map_inj_left.mp (Te W W.g (mgZ hg)) (W.b1,W.b2,W.b5) (fh _ _ _)) (x,y) (bu (mgZ hx) (mgZ hy))
theorem d3_up{jx jy:Bool}{W:WP}{own:Int}{f:Nat→List Nat}{dyn:List MV}:aH (D3 jx jy W own f dyn).H 124=some (.list [.ref 125,.ref 126,.ref 127,.ref 128,.ref 129,.ref 130,.ref 131])∧∀i,i < 7→aH (D3 jx jy W own f dyn).H (125+i)=some (.list (iL (f i))):=
 ⟨(by revert jx jy;apply nD;kernel_rfl),fun _=>lq 7 (F:=fun i=>aH (D3 jx jy W own f dyn).H (125+i)) (G:=fun i=>some (.list (iL (f i)))) ((by revert jx jy;apply nD;kernel_rfl))⟩
theorem JA{jx jy:Bool}{W:WP}{own:Int}{f:Nat→List Nat}{dyn:List MV}:(D3 jx jy W own f dyn).H.length≤aD:=
 lbZ ((by revert jx jy;apply nD;kernel_rfl))
theorem vg{r:MR}{b:Bool}{S:MS}(h:r=some (.bool b,S)):Iu r=some (.bool (!b),S):=by subst h;rfl
theorem JB{x:MR}{q:MS→MR}{S:MS}{y:Bool}(h:x=some (.bool y,S))(h2:q S=some (.bool y,S)):J0 .NotEq x q=some (false,S):=by
 subst h
 show (match q S with|some (b,st)=>(ck st .NotEq (.bool y) b).map fun c=>(c,st)|none=>none)=_
 rw [h2]
 show (PT (.bool y) (.bool y)).map (fun c=>(c,S))=_
 cases y <;>rfl
theorem Tf(m:Bool):eqB (b2 m 0 8) 0=m:=by cases m <;>rfl
theorem Tg{O:aX}{D:Nat}{W:WP}{own:Int}{x y:Nat}{f:Nat→List Nat}{jx jy m:Bool}(hx:x < 9)(hy:y < 9)(hjx:Nat.blt 6 x=jx)(hjy:Nat.blt 6 y=jy){c:Int}(n:Nat)
  (u2:(aA O (n+189+7) D).cal sC [.ref 75] (A1 W own [])=some (.ref 124,A2 W own [] f))
  (u6:(aA O (n+185+7) D).cal wL [.ref 2,.int 66,.tup [iN (c4 x)]] (D3 jx jy W own f [])=some (df 2 x [],(D3 jx jy W own f (bz 2 x []))))
  (u7:(aA O (n+183+7) D).cal ru [.ref 71,.tup [df 2 x [],.int 11,.tup [iN (c4 y)]]] (D3 jx jy W own f (bz 2 x []))=some (.bool m,(D3 jx jy W own f (bz 2 x []))))
  (v7:(aA O (n+183+7) D).cal T9 [.ref 124,iN x,iN y,.int (c % 6)] (D3 jx jy W own f (bz 2 x []))=some (.bool m,(D3 jx jy W own f (bz 2 x []))))
  (u8:(aA O (n+178+9) D).cal ru [.ref 71,.tup [df 2 x [],.int 11,.tup []]] (D3 jx jy W own f (bz 2 x []))=some (.bool false,(D3 jx jy W own f (bz 2 x []))))
  (u9:(aA O (n+178+9) D).cal ru [.ref 71,.tup [df 2 x [],.int 12,.tup [iN (c4 y)]]] (D3 jx jy W own f (bz 2 x []))=some (.bool false,(D3 jx jy W own f (bz 2 x [])))):
  (aA O (n+200) D).run eu [.stm (dU 0)] (eZ x y c []) (A1 W own [])=some (.bool true,(D3 jx jy W own f (bz 2 x []))):=
 (d0 O (n+180) D x y c W own).trans <|
 (a8 (n:=n+197) (K:=[]) (tl:=dU 3) (by kernel_rfl) (by kernel_rfl) ((d2e O (n+189) D (A1 W own []) x y c).trans u2) (d2a O (n+197) D (A2 W own [] f) x y c)).trans <|
 (d3 O (n+185) D x y c W own f hx).trans <|
 (congrArg (fun j=>(aA O (n+196) D).run eu [.stm (dU 4)] (eZ x y c (fx [(sO "first",iN (c4 x))])) (D1 j W own f)) hjx).trans <|
 (d4 O (n+184) D x y c W own f (iN (c4 x)) jx hy).trans <|
 (congrArg (fun j=>(aA O (n+195) D).run eu [.stm (dU 5)] (eZ x y c (fx [(sO "first",iN (c4 x)),(sO "second",iN (c4 y))])) (D2 jx j W own f)) hjy).trans <|
 (d5 O (n+183) D x y c W own f (iN (c4 x)) (iN (c4 y)) jx jy).trans <|
 (a8 (n:=n+193) (K:=[]) (tl:=dU 7) (by kernel_rfl) (by kernel_rfl) ((d6e O (n+185) D (D3 jx jy W own f []) x y c (iN (c4 x)) (iN (c4 y))).trans u6) (d6a O (n+193) D (D3 jx jy W own f (bz 2 x [])) x y c (df 2 x []) (iN (c4 x)) (iN (c4 y)))).trans <|
 (aP (n:=n+192) (K:=[]) (tl:=dU 8) (by kernel_rfl) ((d7t O (n+183) D (D3 jx jy W own f (bz 2 x [])) x y c (df 2 x []) (iN (c4 x)) (iN (c4 y))).trans (JB u7 v7))).trans <|
 (d7B O (n+188) D (D3 jx jy W own f (bz 2 x [])) [.stm (dU 8)] (eZ x y c (fx [(sO "first",iN (c4 x)),(sO "second",iN (c4 y)),(sO "mid",.int 11),(sO "at",df 2 x [])]))).trans <|
 (iG (O:=O) (n:=n+190) (d:=D) (cx:=eu) (tl:=[]) (K:=[]) (zl:=(eZ x y c (fx [(sO "first",iN (c4 x)),(sO "second",iN (c4 y)),(sO "mid",.int 11),(sO "at",df 2 x [])]))) (st:=(D3 jx jy W own f (bz 2 x []))) (ss:=dU 8) (by kernel_rfl)).trans <|
 (d8 O (n+178) D (D3 jx jy W own f (bz 2 x [])) x y c (df 2 x []) (iN (c4 x)) (iN (c4 y))).trans
 (eK ((d80 O (n+178) D (D3 jx jy W own f (bz 2 x [])) x y c (df 2 x []) (iN (c4 x)) (iN (c4 y))).trans (vg u8)) (fun _=>(d81 O (n+178) D (D3 jx jy W own f (bz 2 x [])) x y c (df 2 x []) (iN (c4 x)) (iN (c4 y))).trans (vg u9)))
theorem Th(jx jy:Bool)(W:WP)(own:Int)(f:Nat→List Nat)(dyn:List MV):aL (A1 W own []) (some (.bool true,D3 jx jy W own f dyn))=some (.bool true,⟨eq W own,dyn,aD,aD⟩):=
 (by revert jx jy;apply nD;kernel_rfl)
theorem JC(W:WP)(own:Int):(eq W own)[123]? =some (fs own):=by
 rw [←aJ];kernel_rfl
theorem zf{O:aX}{D:Nat}{W:WP}{own:Int}{x y:Nat}(hx:x < 9)(hy:y < 9){c:Int}(hg:W.g < 6)(hc:c % 6=.ofNat W.g)(n:Nat)(lg:∀d x s,O 961 d x s=none)(lh:∀d x s,O 1003 d x s=none)(li:∀d x s,O 1008 d x s=none)
  (hck:∀n,(aA O (n+31) (D+1)).cal wL [.ref 2,.int 66,.tup [iN (c4 x)]] (D3 (Nat.blt 6 x) (Nat.blt 6 y) W own (aO W) [])=some (df 2 x [],D3 (Nat.blt 6 x) (Nat.blt 6 y) W own (aO W) (bz 2 x [])))
  (hsm:∀n,(aA O (n+101) (D+1)).cal ru [.ref 71,.tup [df 2 x [],.int 11,.tup [iN (c4 y)]]] (D3 (Nat.blt 6 x) (Nat.blt 6 y) W own (aO W) (bz 2 x []))=some (.bool (eqB (b2 (nS W (c4 y) (c4 x)) 0 8) 0),D3 (Nat.blt 6 x) (Nat.blt 6 y) W own (aO W) (bz 2 x [])))
  (hs0:∀n,(aA O (n+101) (D+1)).cal ru [.ref 71,.tup [df 2 x [],.int 11,.tup []]] (D3 (Nat.blt 6 x) (Nat.blt 6 y) W own (aO W) (bz 2 x []))=some (.bool false,D3 (Nat.blt 6 x) (Nat.blt 6 y) W own (aO W) (bz 2 x [])))
  (hs1:∀n,(aA O (n+101) (D+1)).cal ru [.ref 71,.tup [df 2 x [],.int 12,.tup [iN (c4 y)]]] (D3 (Nat.blt 6 x) (Nat.blt 6 y) W own (aO W) (bz 2 x []))=some (.bool false,D3 (Nat.blt 6 x) (Nat.blt 6 y) W own (aO W) (bz 2 x []))):
  ∃H2 dyn2 b1 b2,(aA O (n+201) (D+2)).cal z9 [.ref 71,cb,.ref 78,iN x,iN y,.int c] ⟨eq W own,[],aD,aD⟩=some (.bool true,⟨H2,dyn2,b1,b2⟩)∧123≤b2∧H2[123]? =some (fs own):=by
 have cc:=d_c O n (D+1) (A1 W own []) x y c;rw [li]at cc
 have u7:=(hsm (n+89)).trans (congrArg (fun b=>some (MV.bool b,D3 (Nat.blt 6 x) (Nat.blt 6 y) W own (aO W) (bz 2 x []))) ((Tf _).trans (pl3 W hg hx hy)))
 have v7:=Iz (O:=O) (n:=n+159) (D:=D) (S:=D3 (Nat.blt 6 x) (Nat.blt 6 y) W own (aO W) (bz 2 x [])) (f:=aO W) lh JA hg hx hy d3_up.1 d3_up.2
 have v7':=(congrArg (fun i=>(aA O (n+190) (D+1)).cal T9 [.ref 124,iN x,iN y,.int i] (D3 (Nat.blt 6 x) (Nat.blt 6 y) W own (aO W) (bz 2 x []))) hc).trans v7
 have all:=Tg (O:=O) (D:=D+1) (W:=W) (own:=own) (x:=x) (y:=y) (f:=aO W) (jx:=Nat.blt 6 x) (jy:=Nat.blt 6 y) (m:=J6 (aO W) W.g x y) hx hy rfl rfl (c:=c) n (vF O lg W own [] (n+46) D) (hck (n+161)) u7 v7' (hs0 (n+86)) (hs1 (n+86))
 exact⟨eq W own,bz 2 x [],aD,aD,(cc.trans (congrArg (aL (A1 W own [])) all)).trans (Th _ _ W own _ _),by decide,JC W own⟩
theorem JD{W:WP}(hg:W.g < 6){own:Int}{x y:Nat}(hx:x < 9)(hy:y < 9){c:Int}(hc:c % 6=.ofNat W.g)(d:Nat):∃H2 dyn2 b1 b2,(aA (BB W) 201 (d+31)).cal z9 [.ref 71,cb,.ref 78,iN x,iN y,.int c] ⟨eq W own,[],aD,aD⟩=some (.bool true,⟨H2,dyn2,b1,b2⟩)∧123≤b2∧H2[123]? =some (fs own):=by
 exact zf (D:=d+29) hx hy hg hc 0 (fun d x s=>by kernel_rfl) (fun d x s=>by kernel_rfl) (fun d x s=>by kernel_rfl) (fun n=>dck W own (aO W) n (d+18) (Nat.blt 6 y) hx) (fun n=>Iv W own (aO W) n d hx hy) (fun n=>X8 W own (aO W) n d (Nat.blt 6 y) hx) (fun n=>X9 W own (aO W) n d (Nat.blt 6 y) (iN (c4 y)) hx)
def Xg(W:WP)(args:List MV):Prop:=∃x y c,args=[.ref 71,cb,.ref 78,iN x,iN y,.int c]∧x < 9∧y < 9∧c % 6=.ofNat W.g
def UT(W:WP)(args:List MV):Option (MV×(Int→Int)):=open Classical in if Xg W args then some (.bool true,fun o=>o) else none
def lL(W:WP):aX:=re z9 31 (UT W)
theorem rv{w:Wd}{W:WP}(hg:W.g < 6)(hB:sB w W):ak w (lL W):=by
 refine qR (fun w' hB'=>zd hg hB') (ze W) GI (fun args p h=>?_) hB
 unfold UT at h;split at h
 ·rename_i hx;cases h;obtain⟨x,y,c,rfl,h2,h3,h4⟩:=hx
  exact⟨.bool _,rfl,201,fun own d=>JD hg h2 h3 h4 d⟩
 ·cases h
theorem rx(W:WP):ah (lL W):=qS _ _ _
theorem vh{W:WP}{d:Nat}{x y:Nat}{c:Int}(hd:31≤d)(hx:x < 9)(hy:y < 9)(hc:c % 6=.ofNat W.g){st:MS}{own:Int}(hb:123≤st.bas)(hs:st.H[123]? =some (fs own)):
  lL W 1008 d [.ref 71,cb,.ref 78,iN x,iN y,.int c] st=some (.bool true,⟨bO (fs own) st.H 123,st.dyn,mn 123 st.low,mn 123 st.bas⟩):=by
 have e:UT W [.ref 71,cb,.ref 78,iN x,iN y,.int c]=some (.bool true,fun o=>o):=by unfold UT;rw [if_pos ⟨x,y,c,rfl,hx,hy,hc⟩]
 exact oi (f:=z9) hb hd hs e
def dg:Cx:=(fS (st 189)).names
def aw(k:Nat):List Stmt:=(fB (st 189)).drop k
def Xh:xpZ:=gV (aw 12)
def wM(k:Nat):List Stmt:=(gW (aw 12)).drop k
def J7(i:Nat):List Itm:=[.forI Xh (.lst 124) i (wM 0),.stm (aw 13)]
def lY(a b c:Int)(tl:Loc):Loc:=(sO "nums",.ref 124)::(sO "a",.int a)::(sO "b",.int b)::(sO "c",.int c)::(sO "store",.ref 0)::(sO "world",cb)::(sO "methods",.ref 78)::(sO "host",.ref 71)::(sO "cx",.ref 122)::tl
def zg(q:Option (Int×Option Int)):Loc:=match q with
 |none=>[]
 |some (n,none)=>[(sO "n",.int n)]
 |some (n,some m)=>[(sO "n",.int n),(sO "m",.int m)]
noncomputable def lwQ(q:Option (Int×Option Int)):Option Int:=match q with
 |none=>none
 |some (_,p)=>p
noncomputable def cB(zn:List Int):List MO:=[.list (zn.map .int)]
section
variable(O:aX)(n D:Nat)(S:MS)(a b c k m:Int)(tl:Loc)(K:List Itm)
theorem l10:(aA O (n+9) D).tst dg (lY a b c []) S (aq (aw 10))=jQ (ca ((aA O (n+6) D).cal zG (ou 3 0 0 0 7) S)):=by kernel_rfl
theorem Xi(zl:Loc):(aA O (n+4) D).run dg (.stm (dp (aw 10))::K) zl S=(aA O (n+3) D).run dg K zl S:=by kernel_rfl
theorem l11:(aA O (n+12) D).tst dg (lY a b c []) S (aq (aw 11))=jQ (ca ((aA O (n+9) D).cal z9 [.ref 71,cb,.ref 78,.int (a % 9),.int ((a / 9+b) % 9),.int c] S)):=by kernel_rfl
theorem Xj(zl:Loc):(aA O (n+4) D).run dg (.stm (dp (aw 11))::K) zl S=(aA O (n+3) D).run dg K zl S:=by kernel_rfl
theorem l12:bv (aA O (n+4) D) dg (lY a b c []) S (dk (aw 12))=nj S (.ref 124):=by kernel_rfl
theorem Xk(q:Option (Int×Option Int)):bL (aA O n D) dg (lY a b c (zg q)) S Xh (.int k)=some (lY a b c (zg (some (k,lwQ q))),S):=by
 rcases q with _|⟨n,_|m⟩ <;>kernel_rfl
theorem y0(q:Option Int):(aA O (n+12) D).run dg (.stm (wM 0)::K) (lY a b c (zg (some (k,q)))) S=(aA O (n+11) D).run dg (.stm (wM 1)::K) (lY a b c (zg (some (k,some (k / 7+k % 1009))))) S:=by
 rcases q with _|m <;>kernel_rfl
theorem y1:(aA O (n+12) D).tst dg (lY a b c (zg (some (k,some m)))) S (aq (wM 1))=jQ (ca ((aA O (n+9) D).cal zG [.ref 122,cb,.ref 78,.int (k % 7),.int (m % 5),.int (k % 11 % 7),.int (k % 9),.int (m % 9)] S)):=by kernel_rfl
theorem y1B(zl:Loc):(aA O (n+4) D).run dg (.stm (dp (wM 1))::K) zl S=(aA O (n+3) D).run dg K zl S:=by kernel_rfl
theorem y2:(aA O (n+12) D).tst dg (lY a b c (zg (some (k,some m)))) S (aq (wM 2))=jQ (ca ((aA O (n+9) D).cal z9 [.ref 71,cb,.ref 78,.int (k % 9),.int (m % 9),.int c] S)):=by kernel_rfl
theorem y2B(zl:Loc):(aA O (n+4) D).run dg (.stm (dp (wM 2))::.stm []::K) zl S=(aA O (n+2) D).run dg K zl S:=by kernel_rfl
theorem l13(zl:Loc):(aA O (n+4) D).run dg [.stm (aw 13)] zl S=some (.bool true,S):=by kernel_rfl
theorem vi(W:WP)(own a':Int)(T:List MO):bO (fs a') (eq W own++T) 123=eq W a'++T:=by kernel_rfl
theorem vj(W:WP)(own:Int)(T:List MO):(eq W own++T)[123]? =some (fs own):=by
 rw [←aJ];kernel_rfl
structure vk(O:aX)(W:WP)(D:Nat)(c:Int)(T:List MO):Prop where
 ask:∀own lo ba a ow pl fo x,123≤ba→a < 7→ow < 5→pl < 7→fo < 9→x < 9→∃a',O 996 D (ou a ow pl fo x) (BT W own T [] lo ba)=some (.bool true,BT W a' T [] (mn 123 lo) (mn 123 ba))
 bnd:∀own lo ba x y,123≤ba→x < 9→y < 9→O 1008 D [.ref 71,cb,.ref 78,iN x,iN y,.int c] (BT W own T [] lo ba)=some (.bool true,BT W own T [] (mn 123 lo) (mn 123 ba))
theorem BC{k:Nat}(h:123≤k):mn 123 k=123:=by
 unfold mn;split
 ·rfl
 ·rename_i q;have:=Bool.eq_false_iff.mp q
  exact Nat.le_antisymm (Nat.le_of_not_lt fun h=>this (blt_iff.mpr h)) h
theorem Xl(W:WP){D:Nat}(hD:31≤D){c:Int}(hc:c % 6=.ofNat W.g)(T:List MO):vk (gk vd (lL W)) W D c T:=by
 refine⟨fun own lo ba a ow pl fo x hb h1 h2 h3 h4 h5=>?_,fun own lo ba x y hb h1 h2=>?_⟩
 ·obtain⟨a',e⟩:=IN (d:=D) (by lia) h1 h2 h3 h4 h5 (st:=BT W own T [] lo ba) (own:=own) hb (vj W own T)
  refine⟨a',(fm e).trans ?_⟩
  show some (MV.bool true,(⟨bO (fs a') (eq W own++T) 123,[],mn 123 lo,mn 123 ba⟩:MS))=_
  rw [vi];rfl
 ·have e:=vh (W:=W) (d:=D) hD h1 h2 hc (st:=BT W own T [] lo ba) (own:=own) hb (vj W own T)
  have e0:vd 1008 D [.ref 71,cb,.ref 78,iN x,iN y,.int c] (BT W own T [] lo ba)=none:=H7 (by decide)
  refine (bo e0).trans (e.trans ?_)
  show some (MV.bool true,(⟨bO (fs own) (eq W own++T) 123,[],mn 123 lo,mn 123 ba⟩:MS))=_
  rw [vi];rfl
theorem bm{k j:Int}(hj:0 < j){n:Nat}(hn:j=n):∃r:Nat,k % j=.ofNat r∧r < n:=by
 have h1:=Int.emod_nonneg k (Int.ne_of_gt hj);have h2:=Int.emod_lt_of_pos k hj
 exact⟨(k % j).toNat,(Int.toNat_of_nonneg h1).symm,by lia⟩
variable{O D a b c}{W:WP}{zn:List Int}
theorem BD{n:Nat}(H:vk O W D c (cB zn))(own:Int){lo ba:Nat}(hb:123≤ba){a ow pl fo x:Nat}(h1:a < 7)(h2:ow < 5)(h3:pl < 7)(h4:fo < 9)(h5:x < 9):∃a',jQ (ca ((aA O (n+1) D).cal zG (ou a ow pl fo x) (BT W own (cB zn) [] lo ba)))=some (false,BT W a' (cB zn) [] (mn 123 lo) 123):=by
 obtain⟨a',e⟩:=H.ask own lo ba a ow pl fo x hb h1 h2 h3 h4 h5;rw [BC hb]at e
 exact⟨a',by rw [bA (f:=zG) e];rfl⟩
theorem BE{n:Nat}(H:vk O W D c (cB zn))(own:Int){lo ba:Nat}(hb:123≤ba){x y:Nat}(h1:x < 9)(h2:y < 9):jQ (ca ((aA O (n+1) D).cal z9 [.ref 71,cb,.ref 78,iN x,iN y,.int c] (BT W own (cB zn) [] lo ba)))=some (false,BT W own (cB zn) [] (mn 123 lo) 123):=by
 have e:=H.bnd own lo ba x y hb h1 h2;rw [BC hb]at e;rw [bA (f:=z9) e];rfl
theorem zh(H:vk O W D c (cB zn)):∀(k i:Nat),i+k=zn.length→∀(N:Nat),8 * k+30≤N→∀(own:Int) (lo:Nat) (q:Option (Int×Option Int)),∃st',(aA O N D).run dg (J7 i) (lY a b c (zg q)) (BT W own (cB zn) [] lo 123)=some (.bool true,st'):=by
 intro k
 induction k with
 |zero=>
  intro i hi N hN own lo q
  obtain⟨n,rfl⟩:∃n,N=n+5:=⟨N - 5,by lia⟩
  have hg:aH (BT W own (cB zn) [] lo 123).H 124=some (.list (zn.map .int)):=by kernel_rfl
  exact⟨_,(cR (n:=n+4) hg (by rw [aJ,ydZ,yjZ (by lia)];rfl)).trans (l13 O n D _ _)⟩
 |succ k ih=>
  intro i hi N hN own lo q
  obtain⟨n,rfl⟩:∃n,N=n+30:=⟨N - 30,by lia⟩
  have hil:i < zn.length:=by lia
  have hg:aH (BT W own (cB zn) [] lo 123).H 124=some (.list (zn.map .int)):=by kernel_rfl
  have hv:aH (zn.map MV.int) i=some (.int zn[i]):=by rw [aJ,ydZ,yiZ hil];rfl
  generalize zn[i]=v at hv;have r0:=bh (O:=O) (n:=n+29) (d:=D) (cx:=dg) (x:=Xh) (K:=[.stm (aw 13)]) (body:=wM 0) hg hv (Xk O (n+29) D (BT W own (cB zn) [] lo 123) a b c v q);have s0:=y0 O (n+17) D (BT W own (cB zn) [] lo 123) a b c v (J7 (i+1)) (lwQ q);generalize v / 7+v % 1009=m at s0
  obtain⟨x1,e1,g1⟩:=bm (k:=v) (j:=7) (by decide) (n:=7) rfl
  obtain⟨x2,e2,g2⟩:=bm (k:=m) (j:=5) (by decide) (n:=5) rfl
  obtain⟨x3,e3,g3⟩:=bm (k:=v % 11) (j:=7) (by decide) (n:=7) rfl
  obtain⟨x4,e4,g4⟩:=bm (k:=v) (j:=9) (by decide) (n:=9) rfl
  obtain⟨x5,e5,g5⟩:=bm (k:=m) (j:=9) (by decide) (n:=9) rfl
  have t1:=y1 O (n+15) D (BT W own (cB zn) [] lo 123) a b c v m
  rw [show n+15+12=n+27 from rfl,e1,e2,e3,e4,e5,show n+15+9=n+23+1 from rfl]at t1
  obtain⟨a',u1⟩:=BD (n:=n+23) H own (lo:=lo) (lrZ 123) g1 g2 g3 g4 g5
  have s1:=aP (K:=J7 (i+1)) (tl:=wM 2) (by kernel_rfl) (t1.trans u1)
  have b1:=y1B O (n+23) D (BT W a' (cB zn) [] (mn 123 lo) 123) (.stm (wM 2)::J7 (i+1)) (lY a b c (zg (some (v,some m))));have t2:=y2 O (n+13) D (BT W a' (cB zn) [] (mn 123 lo) 123) a b c v m
  rw [show n+13+12=n+25 from rfl,e4,e5,show n+13+9=n+21+1 from rfl]at t2
  have u2:=BE (n:=n+21) H a' (lo:=mn 123 lo) (lrZ 123) g4 g5
  have s2:=aP (K:=J7 (i+1)) (tl:=[]) (by kernel_rfl) (t2.trans u2)
  have b2:=y2B O (n+21) D (BT W a' (cB zn) [] (mn 123 (mn 123 lo)) 123) (J7 (i+1)) (lY a b c (zg (some (v,some m))))
  obtain⟨st',z⟩:=ih (i+1) (by lia) (n+23) (by lia) a' (mn 123 (mn 123 lo)) (some (v,some m))
  exact⟨st',r0.trans (s0.trans (s1.trans (b1.trans (s2.trans (b2.trans z)))))⟩
theorem Ti(H:vk O W D c (cB zn))(hn:zn.length≤3)(own:Int)(lo:Nat){ba:Nat}(hb:123≤ba):∃st',(aA O 100 D).run dg [.stm (aw 10)] (lY a b c []) (BT W own (cB zn) [] lo ba)=some (.bool true,st'):=by
 have t0:=l10 O 90 D (BT W own (cB zn) [] lo ba) a b c
 obtain⟨a',u0⟩:=BD (n:=95) H own (lo:=lo) hb (a:=3) (ow:=0) (pl:=0) (fo:=0) (x:=7) (by decide) (by decide) (by decide) (by decide) (by decide)
 have s0:=aP (K:=[]) (tl:=aw 11) (by kernel_rfl) (t0.trans u0)
 have b0:=Xi O 95 D (BT W a' (cB zn) [] (mn 123 lo) 123) [.stm (aw 11)] (lY a b c [])
 obtain⟨x1,e1,g1⟩:=bm (k:=a) (j:=9) (by decide) (n:=9) rfl
 obtain⟨x2,e2,g2⟩:=bm (k:=a / 9+b) (j:=9) (by decide) (n:=9) rfl
 have t1:=l11 O 85 D (BT W a' (cB zn) [] (mn 123 lo) 123) a b c;rw [e1,e2]at t1;have u1:=BE (n:=93) H a' (lo:=mn 123 lo) (lrZ 123) g1 g2
 have s1:=aP (K:=[]) (tl:=aw 12) (by kernel_rfl) (t1.trans u1)
 have b1:=Xj O 93 D (BT W a' (cB zn) [] (mn 123 (mn 123 lo)) 123) [.stm (aw 12)] (lY a b c [])
 have hs:bv (aA O 95 D) dg (lY a b c []) (BT W a' (cB zn) [] (mn 123 (mn 123 lo)) 123) (dk (aw 12))=some (.lst 124,BT W a' (cB zn) [] (mn 123 (mn 123 lo)) 123):=(l12 O 91 D _ a b c).trans (by kernel_rfl)
 have s2:=eN (n:=95) (K:=[]) (tl:=aw 13) (by kernel_rfl) hs
 obtain⟨st',z⟩:=zh (a:=a) (b:=b) H zn.length 0 (by simp) 95 (by lia) a' (mn 123 (mn 123 lo)) none
 exact⟨st',s0.trans (b0.trans (s1.trans (b1.trans (s2.trans z))))⟩
end
mutual
noncomputable def ox(τ:Nat→Option Nat):MV→MV
 | .ref i=>match τ i with
  |some j=>.ref j
  |none=>.anyv
 | .kd _=>.anyv
 | .op _=>.anyv
 | .tup vs=>.tup (lM τ vs)
 | .none=>.none
 | .bool b=>.bool b
 | .int i=>.int i
 | .str s=>.str s
 | .anyv=>.anyv
 | .top a=>.top a
noncomputable def lM(τ:Nat→Option Nat):List MV→List MV
 |[]=>[]
 |v::r=>ox τ v::lM τ r
end
def J8(τ:Nat→Option Nat):List (Str×MV)→List (Str×MV)
 |[]=>[]
 |p::r=>(p.1,ox τ p.2)::J8 τ r
noncomputable def JE:List MV→Bool
 |[]=>true
 | .int _::r=>JE r
 |_=>false
def q6:List MV→Bool
 |[]=>true
 | .int _::r=>q6 r
 | .tup us::r=>an (JE us) (q6 r)
 |_=>false
def Xm:MV→Bool
 | .int _=>true
 | .tup vs=>q6 vs
 |_=>false
def Tj:List (MV×MV)→Bool
 |[]=>true
 |p::r=>an (Xm p.1) (an (Xm p.2) (Tj r))
def Tk(τ:Nat→Option Nat):MO→MO
 | .list vs=>.list (lM τ vs)
 | .dict es=>match Tj es with
  |true=>.dict es
  |false=>.any
 | .inst c d=>match τ d with
  |some j=>.inst c j
  |none=>.any
 | .idict c es=>.idict c (J8 τ es)
 | .any=>.any
 | .ktb=>.any
theorem iv(τ:Nat→Option Nat)(vs:List MV):(lM τ vs).length=vs.length:=by
 induction vs with
 |nil=>rfl
 |cons v r ih=>exact congrArg Nat.succ ih
theorem zi(τ:Nat→Option Nat)(es:List (Str×MV)):(J8 τ es).length=es.length:=by
 induction es with
 |nil=>rfl
 |cons v r ih=>exact congrArg Nat.succ ih
section
variable{τ:Nat→Option Nat}
theorem BF(ha:∀i j,τ i=some j→as'[j]? =as[i]?){i:Nat}{a:Addr}(h:as[i]? =some a):VR as' ks' im (ox τ (.ref i)) (.ref a):=by
 show VR as' ks' im (match τ i with|some j=>.ref j|none=>.anyv) _
 cases hj:τ i with
 |some j=>exact .ref ((ha i j hj).trans h)
 |none=>exact .anyv rfl
theorem Xn(ha:∀i j,τ i=some j→as'[j]? =as[i]?):(∀v w,VR as ks im v w→VR as' ks' im (ox τ v) w)∧∀v w,VRs as ks im v w→VRs as' ks' im (lM τ v) w:=
 have A:=@VR.rec as ks im (fun v w _=>VR as' ks' im (ox τ v) w) (fun v w _=>VRs as' ks' im (lM τ v) w) .none .bool .int .str (fun _ _=>.anyv rfl) (fun _ _=>.anyv rfl) .anyv .top (BF ha) (fun h _ hl ih=>.tup h ih (leZ (Nat.le_of_eq (iv τ _)) hl)) .nil (fun _ _ a b=>.cons a b)
 have B:=@VRs.rec as ks im (fun v w _=>VR as' ks' im (ox τ v) w) (fun v w _=>VRs as' ks' im (lM τ v) w) .none .bool .int .str (fun _ _=>.anyv rfl) (fun _ _=>.anyv rfl) .anyv .top (BF ha) (fun h _ hl ih=>.tup h ih (leZ (Nat.le_of_eq (iv τ _)) hl)) .nil (fun _ _ a b=>.cons a b)
 ⟨fun _ _ h=>A h,fun _ _ h=>B h⟩
theorem Ents.rn(ha:∀i j,τ i=some j→as'[j]? =as[i]?){es:List (Str×MV)}{ds:List DictEntry}(h:Ents P as ks im es ds):Ents P as' ks' im (J8 τ es) ds:=by
 induction h with
 |nil=>exact .nil
 |cons h _ ih=>exact .cons ((Xn ha).1 _ _ h) ih
theorem vl{p:Str×MV}{es:List (Str×MV)}(h:p ∈ J8 τ es):∃q ∈ es,q.1=p.1:=by
 induction es with
 |nil=>exact nomatch h
 |cons e r ih=>
  rcases mcZ (show p ∈ (e.1,ox τ e.2)::J8 τ r from h)with rfl|h
  ·exact⟨e,.head _,rfl⟩
  ·obtain⟨q,h1,h2⟩:=ih h;exact⟨q,.tail _ h1,h2⟩
theorem zj{vs:List MV}:JE vs=true→∀v ∈ vs,Pz v:=by
 induction vs with
 |nil=>exact fun _ _ h=>nomatch h
 |cons x r ih=>
  intro h
  cases x with
  |int i=>exact fcZ ⟨.int i,ih h⟩
  |_=>exact cM h
theorem vm{vs:List MV}:q6 vs=true→∀v ∈ vs,Pz v:=by
 induction vs with
 |nil=>exact fun _ _ h=>nomatch h
 |cons x r ih=>
  intro h
  cases x with
  |int i=>exact fcZ ⟨.int i,ih h⟩
  |tup us=>exact fcZ ⟨.tup (zj (cO h).1),ih (cO h).2⟩
  |_=>exact cM h
theorem vn{v:MV}(h:Xm v=true):Pz v:=by
 cases v with
 |int i=>exact .int i
 |tup vs=>exact .tup (vm h)
 |_=>exact cM h
theorem JF{es:List (MV×MV)}:Tj es=true→∀p ∈ es,Pz p.1∧Pz p.2:=by
 induction es with
 |nil=>exact fun _ _ h=>nomatch h
 |cons e r ih=>exact fun h=>fcZ ⟨⟨vn (cO h).1,vn (cO (cO h).2).1⟩,ih (cO (cO h).2).2⟩
theorem OR.rnd{es:List (MV×MV)}{b:Obj}(nt:b.cls≠ .type "tuple")(h:OR P as ks im (.dict es) b):OR P as' ks' im (Tk τ (.dict es)) b:=by
 show OR P as' ks' im (match Tj es with|true=>.dict es|false=>.any) _
 cases hp:Tj es with
 |true=>exact h.dpz (JF hp)
 |false=>exact .any nt
theorem OR.rn(w:Wd)(ha:∀i j,τ i=some j→as'[j]? =as[i]?){o:MO}{b:Obj}(h:OR P as ks im o b):OR P as' ks' im (Tk τ o) b:=by
 have nt:=OR.notTup (P:=P) w h
 cases h with
 |list h hl=>exact .list ((Xn ha).2 _ _ h) (leZ (Nat.le_of_eq (iv τ _)) hl)
 |@inst c d a h=>
  show OR P as' ks' im (match τ d with|some j=>.inst c j|none=>.any) _
  cases hj:τ d with
  |some j=>exact .inst ((ha d j hj).trans h)
  |none=>exact .any nt
 |idict h hf hl=>exact .idict (h.rn ha) (fun p hp=>let ⟨q,h1,h2⟩:=vl hp;h2 ▸hf q h1) (leZ (Nat.le_of_eq (zi τ _)) hl)
 |ndict h hl ho=>exact OR.rnd nt (.ndict h hl ho)
 |hdict h hl hc hd hds hn=>exact OR.rnd nt (.hdict h hl hc hd hds hn)
 |any h=>exact .any h
 |ktb=>exact .any nt
end
def lN(τ:Nat→Option Nat)(H:List MO):List Nat→List MO
 |[]=>[]
 |i::r=>(match aH H i with|some o=>Tk τ o|none=>.any)::lN τ H r
section
variable{st:MS}{τ:Nat→Option Nat}
theorem vo{H:List MO}{g:Nat→Addr×Obj}(σ:List Nat):(∀i ∈ σ,∃o,H[i]? =some o∧OR P as ks im (Tk τ o) (g i).2)→ORs P as ks im (lN τ H σ) (σ.map g):=by
 induction σ with
 |nil=>exact fun _=>.nil
 |cons i r ih=>
  intro h;obtain⟨o,h1,h2⟩:=h i (.head _)
  refine .cons ?_ (ih fun i hi=>h i (.tail _ hi))
  show OR P as ks im (match aH H i with|some o=>Tk τ o|none=>.any) _
  rw [aJ,h1];exact h2
theorem ORs.dr{o:MO}{os:List MO}{L:List (Addr×Obj)}(A:ORs P as ks im (o::os) L):ORs P as ks im os (L.drop 1):=by
 obtain⟨p,R,rfl,h,A⟩:=A.consI;exact A
theorem vp{c d:Nat}{b:Obj}(hc:c=86)(h:OR P as ks im (.inst c d) b):OR P as ks im .ktb b:=by
 subst hc
 cases h with
 |inst h=>exact .ktb
theorem nT{o x:MO}{os:List MO}{i:Nat}(h:(o::os)[i]? =some x)(hn:o≠x):∃j,i=j+1∧os[j]? =some x:=match i,h with
 |0,h=>absurd (oiZ h) hn
 |j+1,h=>⟨j,rfl,h⟩
theorem Tl:TabE [] [] [] [] [] [] []:=⟨rfl,fun t vs h=>aF (List.getElem?_nil.symm.trans h),fun t k h=>aF h,fun k row h=>absurd h ygZ,List.nodup_nil,fun r h=>absurd h ygZ,rfl,rfl,rfl⟩
theorem Now.reroot(n:Now w h₀ L m X l st s){σ:List Nat}{τ:Nat→Option Nat}(hσ:σ.Nodup)(hτ:∀i j,τ i=some j→σ[j]? =some i)(hlt:∀i ∈ σ,i < st.H.length){a b:MO}{r:List MO}
  (hV:lN τ st.H σ=a::b::bH 2 [] [] [] []++r) (hr:∀o ∈ r,o≠ .ktb) (ha:a≠ .ktb) (hb:b≠ .ktb):
  ∃l':LS,Now ⟨w.w,((a::b::.ktb::.any::.any::.any::.any::.any::.any::r).take 123).zip l'.RL,[],[]⟩ h₀ L m X l' ⟨a::b::.ktb::.any::.any::.any::.any::.any::.any::r,[],aD,123⟩ s∧(∀v x,l.VR v x→l'.VR (ox τ v) x):=by
 obtain⟨g,gE⟩:∃g:Nat→Addr×Obj,∀i ∈ σ,l.RL[i]? =some (g i):=⟨fun i=>l.RL.getD i (0,instObj 0 0),fun i hi=>by
  have h:=yiZ (n.H.len' ▸hlt i hi:i < l.RL.length)
  show _=some (l.RL.getD i (0,instObj 0 0))
  rw [List.getD_eq_getElem?_getD,h]
  rfl⟩
 have hmem:∀q ∈ σ.map g,q ∈ l.RL:=List.forall_mem_map.mpr fun i hi=>moZ (gE i hi)
 have gas:∀i ∈ σ,l.as[i]? =some (g i).1:=fun i hi=>(ydZ ..).trans (congrArg (Option.map (·.1)) (gE i hi))
 have has:∀i j,τ i=some j→((σ.map g).map (·.1))[j]? =l.as[i]? :=fun i j h=>by
  have hi:=hτ i j h;rw [ydZ,ydZ,hi];exact (gas i (moZ hi)).symm
 have A:ORs w.params ((σ.map g).map (·.1)) [] l.im (a::b::bH 2 [] [] [] []++r) (σ.map g):=hV ▸vo σ fun i hi=>by
  have ho:=yiZ (hlt i hi);obtain⟨q,hq,hO⟩:=n.H.obj.get ho;obtain rfl:g i=q:=oiZ ((gE i hi).symm.trans hq);exact⟨_,ho,hO.rn w has⟩
 have ny:∀{o:MO} (b:Obj),OR w.params ((σ.map g).map (·.1)) [] l.im o b→OR w.params ((σ.map g).map (·.1)) [] l.im .any b:=fun b h=>.any (OR.notTup w h)
 refine⟨⟨σ.map g,l.im,[]⟩,⟨n.F,fun p hp=>n.N p ((maZ hp).elim (fun h=>mlZ _ (hmem p h)) (mrZ _)),⟨?_,?_,n.H.imt,KN.nil,KB.nil,fun i hi=>?_⟩,fun p hp q hq=>n.ap p hp q (hmem q hq),fun q hq=>n.sm q (hmem q hq),fun i o h1 h2=>?_,fun n k h=>aF (List.getElem?_nil.symm.trans h)⟩,fun v x h=>(Xn has).1 _ _ h⟩
 ·exact A.hd (fun _ h=>h) fun _ A=>A.hd (fun _ h=>h) fun _ A=>A.hd (fun _=>vp rfl) fun _ A=>A.hd ny fun _ A=>A.hd ny fun _ A=>A.hd ny fun _ A=>A.hd ny fun _ A=>A.hd ny fun _ A=>A.hd ny fun _ A=>A
 ·exact List.pairwise_map.mpr (List.pairwise_map.mpr (hσ.imp_of_mem fun {i j} hi hj hne e=>hne (bp n.H.nd (gas i hi) (e ▸gas j hj))))
 ·have hi:(a::b::.ktb::.any::.any::.any::.any::.any::.any::r)[i]? =some MO.ktb:=hi;obtain⟨j,rfl,h⟩:=nT hi ha;obtain⟨j,rfl,h⟩:=nT h hb
  obtain rfl:j=0:=match j,h with
   |0,_=>rfl
   |j+1,h=>by
    obtain⟨_,_,h⟩:=nT (show (MO.any::.any::.any::.any::.any::.any::r)[j]? =some MO.ktb from h) (fun e=>nomatch e)
    obtain⟨_,_,h⟩:=nT h (fun e=>nomatch e)
    obtain⟨_,_,h⟩:=nT h (fun e=>nomatch e)
    obtain⟨_,_,h⟩:=nT h (fun e=>nomatch e)
    obtain⟨_,_,h⟩:=nT h (fun e=>nomatch e)
    obtain⟨_,_,h⟩:=nT h (fun e=>nomatch e)
    exact absurd rfl (hr _ (moZ h))
  refine⟨⟨[],[],[],[],⟨Tl,rfl⟩,?_⟩,fun j h1 h2=>?_⟩
  ·have B:=A.dr.dr.take 7;rw [List.drop_drop]at B;exact B
  ·exact (by decide:∀j ∈ List.range 7,1≤j→j=1∨j=2∨j=3∨j=4∨j=5∨j=6) j (mgZ (Nat.lt_succ_of_le h2)) h1 |> fun h=>by rcases h with rfl|rfl|rfl|rfl|rfl|rfl <;>rfl
 ·obtain⟨g1,g2⟩:=fe h2
  exact⟨(ycZ h1).symm.trans g1,o.2.2,g2,fun _=>rfl⟩
end
def cK(zn:List MV)(r i:Nat)(ms:List MV)(own:List MO):List MO:=[.list zn,.inst 324 2,
 .idict 324 [(sO "kt",.ref 3),(sO "types",.ref 16),(sO "fields_",.ref 11),(sO "methods",.ref 12),(sO "names",.ref 13),(sO "asms",.ref 28),(sO "entry",.int 0)],
 .inst 86 4,.idict 86 (ktN.map fun p=>(p.1,.ref (3+p.2))),.list (rows0.take r),.dict (eQ 0 (rows0.take r)),.list (deps0.take r),.list (wgts0.take r),.list (opns0.take r),
 .list [.none],.list [.none],.list (.none::ms),.dict [],.list [],.list [.none],
 .list ([.none,.ref 17]++List.replicate 62 .none++(List.range i).map fun k=>.ref (34+11 * k)),
 .inst 282 18,.idict 282 [(sO "tid",.int 1),(sO "name",.str (sO "Object")),(sO "sort",.int 1),(sO "flags",.int 0),(sO "base",.int (-1)),(sO "ifaces",.ref 19),(sO "params",.ref 20),(sO "variances",.ref 21),(sO "bounds",.ref 22),(sO "fields",.ref 23),(sO "methods",.ref 24),(sO "asm",.int 0),(sO "cctor",.int 0),(sO "under",.int (-1)),(sO "impls",.ref 25),(sO "props",.ref 26),(sO "events",.ref 27),(sO "finaliser",.int 0),(sO "home",.int 0)],
 .list [],.list [],.list [],.list [],.list [],.list [],.list [],.list [],.list [],.list [.str (sO "core"),.str (sO "a"),.str (sO "b")]]++own
noncomputable def Xo(i:Nat):List MV:=[.int 16,.int 17,.int 18,.int 19,.int 21,.int 22,.int 23].take i
def Tm(W:WP)(i:Nat):List MO:=[.list (nB W),.list (ik W),.list (oZ W),.list (ug W),.list (Xo i)]
noncomputable def Xp(k:Nat):String:=match k with
 |0=>"P"
 |1=>"Q"
 |2=>"G"
 |3=>"R"
 |4=>"S"
 |5=>"M"
 |_=>"K"
def tyA(W:WP)(ms im:List MV)(k:Nat):List MO:=let r (j:Nat):MV:=.ref (35+11 * k+j)
 [.inst 282 (35+11 * k),.idict 282 [(sO "tid",.int (.ofNat (Nat.add k 64))),(sO "name",.str (sO (Xp k))),(sO "sort",.int (match k with|4=>2|_=>1)),(sO "flags",A8 W k),(sO "base",uf W k),(sO "ifaces",r 1),(sO "params",r 2),(sO "variances",r 3),(sO "bounds",r 4),(sO "fields",r 5),(sO "methods",r 6),(sO "asm",kg W k),(sO "cctor",.int 0),(sO "under",.int (-1)),(sO "impls",r 7),(sO "props",r 8),(sO "events",r 9),(sO "finaliser",.int 0),(sO "home",match k with|5=>mz W|6=>.int 69|_=>.int 0)],
  .list [],.list (match k with|2=>[.str (sO "T")]|_=>[]),.list (match k with|2=>[.int 0]|_=>[]),.list (match k with|2=>[.tup [.int 0,.tup []]]|_=>[]),.list [],.list ms,.list im,.list [],.list []]
noncomputable def nrN(i:Nat):Nat:=match i with
 |0=>16
 |1=>17
 |2=>18
 |3=>19
 |4=>20
 |i=>Nat.add i 17
def cC(W:WP)(zn:List MV)(i:Nat):List MO:=cK zn (nrN i) i [] (Tm W i++(List.range i).flatMap (tyA W [] []))
noncomputable def Xq:FI:=⟨954,st 180⟩
def bb:Cx:=(fS (st 180)).names
def aT(k:Nat):List Stmt:=(fB (st 180)).drop k
def zk(a b c:Int)(tl:Loc):Loc:=(sO "store",.ref 1)::(sO "a",.int a)::(sO "b",.int b)::(sO "c",.int c)::tl
def oy(zn:List MV):List MO:=[.list zn,.inst 324 2,
 .idict 324 [(sO "kt",.ref 3),(sO "types",.ref 10),(sO "fields_",.ref 11),(sO "methods",.ref 12),(sO "names",.ref 13),(sO "asms",.ref 14),(sO "entry",.int 0)],
 .inst 86 4,.idict 86 (ktN.map fun p=>(p.1,.ref (3+p.2))),.list (rows0.take 16),.dict (eQ 0 (rows0.take 16)),.list (deps0.take 16),.list (wgts0.take 16),.list (opns0.take 16),
 .list [.none],.list [.none],.list [.none],.dict [],.list []]
def wN(zn:MV)(a b c:Int)(tl:Loc):Loc:=(sO "nums",zn)::(sO "a",.int a)::(sO "b",.int b)::(sO "c",.int c)::tl
section
variable(n d:Nat)(zn:List MV)(a b c:Int)
theorem Xr(S:MS):(aA aC (n+401) (d+11)).cal Xq [.ref 1,.int a,.int b,.int c] S=aL S ((aA aC (n+400) (d+10)).run bb [.stm (aT 0)] (zk a b c []) ⟨S.H,S.dyn,aD,S.bas⟩):=by kernel_rfl
theorem q0t(tl:List Stmt):(aA aC (n+400) (d+10)).run bb [.stm (fD (aT 0)::fD (aT 1)::fD (aT 2)::fD (aT 3)::tl)] (zk a b c []) ⟨oy zn,[],aD,2⟩=(aA aC (n+396) (d+10)).run bb [.stm tl] (zk a b c [(sO "kt",.ref 3)]) ⟨cK zn 16 0 [] [],[],2,2⟩:=by kernel_rfl
theorem q0:(aA aC (n+400) (d+10)).run bb [.stm (aT 0)] (zk a b c []) ⟨oy zn,[],aD,2⟩=(aA aC (n+396) (d+10)).run bb [.stm (aT 4)] (zk a b c [(sO "kt",.ref 3)]) ⟨cK zn 16 0 [] [],[],2,2⟩:=
 (congrArg (fun s=>(aA aC (n+400) (d+10)).run bb [.stm s] (zk a b c []) ⟨oy zn,[],aD,2⟩) (by kernel_rfl:aT 0=fD (aT 0)::fD (aT 1)::fD (aT 2)::fD (aT 3)::aT 4)).trans (q0t n d zn a b c (aT 4))
theorem q4e(S:MS):(aA aC (n+9) (d+10)).ev bb (zk a b c [(sO "kt",.ref 3)]) S (bY (aT 4))=some (.int (b % 5),S):=by kernel_rfl
def la(a b c:Int)(h:Nat)(tl:Loc):Loc:=zk a b c ((sO "kt",.ref 3)::(sO "home",.int (.ofNat h))::tl)
theorem q4a(S:MS)(h:Nat):bL (aA aC n (d+10)) bb (zk a b c [(sO "kt",.ref 3)]) S (dj (aT 4)) (.int (.ofNat h))=some (la a b c h [],S):=by kernel_rfl
noncomputable def Tn(m1 m2 m3 m4:Int)(h:Nat):Int:=match h with
 |0=>1
 |1=>m1
 |2=>m2
 |3=>m3
 |_=>m4
def UU(m1 m2 m3 m4:Int)(h:Nat):List MV:=[.int 1,.int m1,.int m2,.int m3,.int m4,.int (Tn m1 m2 m3 m4 h),.int (Tn m1 m2 m3 m4 h)]
theorem q5t(tl:List Stmt):∀h ∈ [0,1,2,3,4],(aA aC (n+395) (d+10)).run bb [.stm (fD (aT 5)::fD (aT 6)::fD (aT 7)::tl)] (la a b c h []) ⟨cK zn 16 0 [] [],[],2,2⟩=(aA aC (n+392) (d+10)).run bb [.stm tl] (la a b c h [(sO "asms",.ref 29)]) ⟨cK zn 16 0 [] [.list (UU (1+a % 2) (1+a / 2 % 2) (2 - c % 2) (2 - b % 2) h)],[],2,2⟩:=ai [0,1,2,3,4] (fun h=>(aA aC (n+395) (d+10)).run bb [.stm (fD (aT 5)::fD (aT 6)::fD (aT 7)::tl)] (la a b c h []) ⟨cK zn 16 0 [] [],[],2,2⟩) (fun h=>(aA aC (n+392) (d+10)).run bb [.stm tl] (la a b c h [(sO "asms",.ref 29)]) ⟨cK zn 16 0 [] [.list (UU (1+a % 2) (1+a / 2 % 2) (2 - c % 2) (2 - b % 2) h)],[],2,2⟩) (by kernel_rfl)
theorem q5{h:Nat}(hh:h < 5):(aA aC (n+395) (d+10)).run bb [.stm (aT 5)] (la a b c h []) ⟨cK zn 16 0 [] [],[],2,2⟩=(aA aC (n+392) (d+10)).run bb [.stm (aT 8)] (la a b c h [(sO "asms",.ref 29)]) ⟨cK zn 16 0 [] [.list (UU (1+a % 2) (1+a / 2 % 2) (2 - c % 2) (2 - b % 2) h)],[],2,2⟩:=
 (congrArg (fun s=>(aA aC (n+395) (d+10)).run bb [.stm s] (la a b c h []) ⟨cK zn 16 0 [] [],[],2,2⟩) (by kernel_rfl:aT 5=fD (aT 5)::fD (aT 6)::fD (aT 7)::aT 8)).trans (q5t n d zn a b c (aT 8) h (mgZ hh))
theorem q8t(tl:List Stmt)(h:Nat)(A:List MV):(aA aC (n+392) (d+10)).run bb [.stm (fD (aT 8)::tl)] (la a b c h [(sO "asms",.ref 29)]) ⟨cK zn 16 0 [] [.list A],[],2,2⟩=(aA aC (n+391) (d+10)).run bb [.stm tl] (la a b c h [(sO "asms",.ref 29),(sO "kept",.ref 30)]) ⟨cK zn 16 0 [] [.list A,.list [.bool (eqB (a / 4 % 3) 1),.bool (eqB (b % 3) 1),.bool (eqB (c % 3) 2),.bool (eqB (b % 4) 3),.bool (eqB (a % 5) 2),.bool (eqB (c % 4) 1),.bool (eqB (a % 7) 3)]],[],2,2⟩:=by kernel_rfl
theorem q8(h:Nat)(A:List MV):(aA aC (n+392) (d+10)).run bb [.stm (aT 8)] (la a b c h [(sO "asms",.ref 29)]) ⟨cK zn 16 0 [] [.list A],[],2,2⟩=(aA aC (n+391) (d+10)).run bb [.stm (aT 9)] (la a b c h [(sO "asms",.ref 29),(sO "kept",.ref 30)]) ⟨cK zn 16 0 [] [.list A,.list [.bool (eqB (a / 4 % 3) 1),.bool (eqB (b % 3) 1),.bool (eqB (c % 3) 2),.bool (eqB (b % 4) 3),.bool (eqB (a % 5) 2),.bool (eqB (c % 4) 1),.bool (eqB (a % 7) 3)]],[],2,2⟩:=
 (congrArg (fun s=>(aA aC (n+392) (d+10)).run bb [.stm s] (la a b c h [(sO "asms",.ref 29)]) ⟨cK zn 16 0 [] [.list A],[],2,2⟩) (by kernel_rfl:aT 8=fD (aT 8)::aT 9)).trans (q8t n d zn a b c (aT 9) h A)
noncomputable def BG:xpZ→List xpZ
 | .List es _=>es
 |_=>[]
def To(r:Option (List MV×MS)):MR:=match r with
 |some (vs,st)=>fy vs.length (some (.ref st.H.length,psh st (.list vs)))
 |none=>none
abbrev lb(a b c:Int)(h:Nat):Loc:=la a b c h [(sO "asms",.ref 29),(sO "kept",.ref 30)]
theorem q9e(h:Nat)(S:MS):(aA aC (n+12) (d+10)).ev bb (lb a b c h) S (bY (aT 9))=To (bU (aA aC (n+11) (d+10)).ev bb (lb a b c h) S [aW (BG (bY (aT 9))) 0,aW (BG (bY (aT 9))) 1,aW (BG (bY (aT 9))) 2,aW (BG (bY (aT 9))) 3,aW (BG (bY (aT 9))) 4,aW (BG (bY (aT 9))) 5,aW (BG (bY (aT 9))) 6]):=by kernel_rfl
noncomputable def J9:xpZ→xpZ
 | .IfExp t _ _ _=>t
 |e=>e
def jq(k:Nat):xpZ:=aW (BG (bY (aT 9))) k
noncomputable def UV(r:Option (Bool×MS))(i j:Int):MR:=match r with
 |some (true,st)=>some (.int i,st)
 |some (false,st)=>some (.int j,st)
 |none=>none
theorem Xs(h:Nat)(S:MS):(aA aC (n+11) (d+10)).ev bb (lb a b c h) S (jq 0)=some (.int (-1),S)∧(aA aC (n+11) (d+10)).ev bb (lb a b c h) S (jq 3)=some (.int 2,S)∧(aA aC (n+11) (d+10)).ev bb (lb a b c h) S (jq 4)=some (.int (-1),S)∧(aA aC (n+11) (d+10)).ev bb (lb a b c h) S (jq 6)=some (.int 1,S):=⟨by kernel_rfl,by kernel_rfl,by kernel_rfl,by kernel_rfl⟩
theorem Xt(h:Nat)(S:MS):(aA aC (n+10) (d+10)).tst bb (lb a b c h) S (J9 (jq 1))=some (!(eqB (c % 4) 3),S)∧(aA aC (n+10) (d+10)).tst bb (lb a b c h) S (J9 (jq 2))=some (!(eqB (b % 3) 2),S)∧(aA aC (n+10) (d+10)).tst bb (lb a b c h) S (J9 (jq 5))=some (eqB (a % 3) 0,S):=⟨by kernel_rfl,by kernel_rfl,by kernel_rfl⟩
theorem Xu(h:Nat)(S:MS):(aA aC (n+11) (d+10)).ev bb (lb a b c h) S (jq 1)=UV ((aA aC (n+10) (d+10)).tst bb (lb a b c h) S (J9 (jq 1))) 0 (-1)∧(aA aC (n+11) (d+10)).ev bb (lb a b c h) S (jq 2)=UV ((aA aC (n+10) (d+10)).tst bb (lb a b c h) S (J9 (jq 2))) 1 0∧(aA aC (n+11) (d+10)).ev bb (lb a b c h) S (jq 5)=UV ((aA aC (n+10) (d+10)).tst bb (lb a b c h) S (J9 (jq 5))) 0 (-1):=⟨by kernel_rfl,by kernel_rfl,by kernel_rfl⟩
theorem vq(b:Bool)(S:MS)(i j:Int):UV (some (b,S)) i j=some (.int (match b with|true=>i|false=>j),S):=by cases b <;>rfl
theorem oz{ev:Cx→Loc→MS→xpZ→MR}{cx:Cx}{zl:Loc}{st zz st2:MS}{e:xpZ}{r:List xpZ}{v:MV}{vs:List MV}(h:ev cx zl st e=some (v,zz))(g:bU ev cx zl zz r=some (vs,st2)):bU ev cx zl st (e::r)=some (v::vs,st2):=by
 have k:pb (bU ev cx zl zz r) (fun vs st=>some (v::vs,st))=some (v::vs,st2):=by rw [g];rfl
 show pb (ev cx zl st e) _=_
 rw [h];exact k
theorem q9(h:Nat)(S:MS):(aA aC (n+12) (d+10)).ev bb (lb a b c h) S (bY (aT 9))=some (.ref S.H.length,psh S (.list [.int (-1),.int (match !(eqB (c % 4) 3)with|true=>0|false=> -1),.int (match !(eqB (b % 3) 2)with|true=>1|false=>0),.int 2,.int (-1),.int (match eqB (a % 3) 0 with|true=>0|false=> -1),.int 1])):=by
 rw [q9e];obtain⟨e0,e3,e4,e6⟩:=Xs n d a b c h S;obtain⟨t1,t2,t5⟩:=Xt n d a b c h S;obtain⟨i1,i2,i5⟩:=Xu n d a b c h S;rw [t1,vq]at i1;rw [t2,vq]at i2;rw [t5,vq]at i5
 have e:bU (aA aC (n+11) (d+10)).ev bb (lb a b c h) S [jq 0,jq 1,jq 2,jq 3,jq 4,jq 5,jq 6]=some ([.int (-1),.int (match !(eqB (c % 4) 3)with|true=>0|false=> -1),.int (match !(eqB (b % 3) 2)with|true=>1|false=>0),.int 2,.int (-1),.int (match eqB (a % 3) 0 with|true=>0|false=> -1),.int 1],S):=oz e0 (oz i1 (oz i2 (oz e3 (oz e4 (oz i5 (oz e6 rfl))))))
 exact (congrArg To e).trans rfl
end
def Xv:xpZ:=gV (aT 12)
def AA:List Stmt:=gW (aT 12)
def iO(i:Nat):List Itm:=[.forI Xv (.rng 7) i AA,.stm (aT 13)]
def ltI(W:WP)(i:Nat):Loc:=match i with
 |0=>[]
 |k+1=>[(sO "i",.int (.ofNat k)),(sO "base",uf W k),(sO "words",.tup (match k with|2=>[.str (sO "T")]|_=>[])),(sO "t",.ref (34+11 * k))]
def lf(W:WP)(a b c:Int)(h i:Nat):Loc:=la a b c h ((sO "asms",.ref 29)::(sO "kept",.ref 30)::(sO "bases",.ref 31)::(sO "homes",.ref 32)::(sO "kinds",.ref 33)::ltI W i)
section
variable(n d:Nat)(zn:List MV)(a b c:Int)(h:Nat)
theorem q10(A B C:List MV):(aA aC (n+390) (d+10)).run bb [.stm (aT 10)] (la a b c h [(sO "asms",.ref 29),(sO "kept",.ref 30),(sO "bases",.ref 31)]) ⟨cK zn 16 0 [] [.list A,.list B,.list C],[],2,2⟩=(aA aC (n+387) (d+10)).run bb (iO 0) (la a b c h [(sO "asms",.ref 29),(sO "kept",.ref 30),(sO "bases",.ref 31),(sO "homes",.ref 32),(sO "kinds",.ref 33)]) ⟨cK zn 16 0 [] [.list A,.list B,.list C,.list [.int (-1),.int (-1),.int (-1),.int (-1),.int (-1),.int (.ofNat h),.int 5],.list []],[],2,2⟩:=by kernel_rfl
theorem rA(Y:List Stmt)(K:List Itm)(zl:Loc)(S:MS):∀i ∈ List.range 7,(aA aC (n+100) (d+10)).run bb (.forI Xv (.rng 7) i Y::K) zl S=(aA aC (n+99) (d+10)).run bb (.stm Y::.forI Xv (.rng 7) (Nat.succ i) Y::K) (c8 (sO "i") (.int (.ofNat i)) zl) S:=
 ai (List.range 7) _ _ (by kernel_rfl)
def rL(W:WP)(K:List Itm)(i:Nat):MR:=(aA aC (n+99) (d+10)).run bb (.stm AA::K) (c8 (sO "i") (.int (.ofNat i)) (lf W a b c h i)) ⟨cC W zn i,[],2,2⟩
def rR(W:WP)(K:List Itm)(m i:Nat):MR:=(aA aC m (d+10)).run bb K (lf W a b c h i) ⟨cC W zn i,[],2,2⟩
theorem s0(W:WP)(K:List Itm):rL n d zn a b c h W K 0=rR d zn a b c h W K (n+89) 1:=allB (fun x=>rL n d zn a b c h {W with k0:=x} K 0) (fun x=>rR d zn a b c h {W with k0:=x} K (n+89) 1) (by kernel_rfl) W.k0
theorem r0(W:WP):(aA aC (n+100) (d+10)).run bb (iO 0) (lf W a b c h 0) ⟨cC W zn 0,[],2,2⟩=(aA aC (n+89) (d+10)).run bb (iO 1) (lf W a b c h 1) ⟨cC W zn 1,[],2,2⟩:=(rA n d AA [.stm (aT 13)] _ _ 0 (by decide)).trans (s0 n d zn a b c h W (iO 1))
theorem s1(W:WP)(K:List Itm):rL n d zn a b c h W K 1=rR d zn a b c h W K (n+89) 2:=allB (fun x=>rL n d zn a b c h {W with b1:=x} K 1) (fun x=>rR d zn a b c h {W with b1:=x} K (n+89) 2) (congr (congrArg _ (allB (fun y=>rL n d zn a b c h {W with b1:=true,k1:=y} K 1) (fun y=>rR d zn a b c h {W with b1:=true,k1:=y} K (n+89) 2) (by kernel_rfl) W.k1)) (congrArg (fun z=>[z]) (allB (fun y=>rL n d zn a b c h {W with b1:=false,k1:=y} K 1) (fun y=>rR d zn a b c h {W with b1:=false,k1:=y} K (n+89) 2) (by kernel_rfl) W.k1))) W.b1
theorem r1(W:WP):(aA aC (n+100) (d+10)).run bb (iO 1) (lf W a b c h 1) ⟨cC W zn 1,[],2,2⟩=(aA aC (n+89) (d+10)).run bb (iO 2) (lf W a b c h 2) ⟨cC W zn 2,[],2,2⟩:=(rA n d AA [.stm (aT 13)] _ _ 1 (by decide)).trans (s1 n d zn a b c h W (iO 2))
theorem s2(W:WP)(K:List Itm):rL n d zn a b c h W K 2=rR d zn a b c h W K (n+89) 3:=allB (fun x=>rL n d zn a b c h {W with b2:=x} K 2) (fun x=>rR d zn a b c h {W with b2:=x} K (n+89) 3) (congr (congrArg _ (allB (fun y=>rL n d zn a b c h {W with b2:=true,k2:=y} K 2) (fun y=>rR d zn a b c h {W with b2:=true,k2:=y} K (n+89) 3) (by kernel_rfl) W.k2)) (congrArg (fun z=>[z]) (allB (fun y=>rL n d zn a b c h {W with b2:=false,k2:=y} K 2) (fun y=>rR d zn a b c h {W with b2:=false,k2:=y} K (n+89) 3) (by kernel_rfl) W.k2))) W.b2
theorem r2(W:WP):(aA aC (n+100) (d+10)).run bb (iO 2) (lf W a b c h 2) ⟨cC W zn 2,[],2,2⟩=(aA aC (n+89) (d+10)).run bb (iO 3) (lf W a b c h 3) ⟨cC W zn 3,[],2,2⟩:=(rA n d AA [.stm (aT 13)] _ _ 2 (by decide)).trans (s2 n d zn a b c h W (iO 3))
theorem s3(W:WP)(K:List Itm):rL n d zn a b c h W K 3=rR d zn a b c h W K (n+89) 4:=allB (fun x=>rL n d zn a b c h {W with k3:=x} K 3) (fun x=>rR d zn a b c h {W with k3:=x} K (n+89) 4) (by kernel_rfl) W.k3
theorem r3(W:WP):(aA aC (n+100) (d+10)).run bb (iO 3) (lf W a b c h 3) ⟨cC W zn 3,[],2,2⟩=(aA aC (n+89) (d+10)).run bb (iO 4) (lf W a b c h 4) ⟨cC W zn 4,[],2,2⟩:=(rA n d AA [.stm (aT 13)] _ _ 3 (by decide)).trans (s3 n d zn a b c h W (iO 4))
theorem s4(W:WP)(K:List Itm):rL n d zn a b c h W K 4=rR d zn a b c h W K (n+88) 5:=allB (fun x=>rL n d zn a b c h {W with k4:=x} K 4) (fun x=>rR d zn a b c h {W with k4:=x} K (n+88) 5) (by kernel_rfl) W.k4
theorem r4(W:WP):(aA aC (n+100) (d+10)).run bb (iO 4) (lf W a b c h 4) ⟨cC W zn 4,[],2,2⟩=(aA aC (n+88) (d+10)).run bb (iO 5) (lf W a b c h 5) ⟨cC W zn 5,[],2,2⟩:=(rA n d AA [.stm (aT 13)] _ _ 4 (by decide)).trans (s4 n d zn a b c h W (iO 5))
theorem s5(W:WP)(K:List Itm):rL n d zn a b c h W K 5=rR d zn a b c h W K (n+88) 6:=allB (fun x=>rL n d zn a b c h {W with b5:=x} K 5) (fun x=>rR d zn a b c h {W with b5:=x} K (n+88) 6) (congr (congrArg _ (allB (fun y=>rL n d zn a b c h {W with b5:=true,k5:=y} K 5) (fun y=>rR d zn a b c h {W with b5:=true,k5:=y} K (n+88) 6) (by kernel_rfl) W.k5)) (congrArg (fun z=>[z]) (allB (fun y=>rL n d zn a b c h {W with b5:=false,k5:=y} K 5) (fun y=>rR d zn a b c h {W with b5:=false,k5:=y} K (n+88) 6) (by kernel_rfl) W.k5))) W.b5
theorem r5(W:WP):(aA aC (n+100) (d+10)).run bb (iO 5) (lf W a b c h 5) ⟨cC W zn 5,[],2,2⟩=(aA aC (n+88) (d+10)).run bb (iO 6) (lf W a b c h 6) ⟨cC W zn 6,[],2,2⟩:=(rA n d AA [.stm (aT 13)] _ _ 5 (by decide)).trans (s5 n d zn a b c h W (iO 6))
theorem s6(W:WP)(K:List Itm):rL n d zn a b c h W K 6=rR d zn a b c h W K (n+88) 7:=allB (fun x=>rL n d zn a b c h {W with k6:=x} K 6) (fun x=>rR d zn a b c h {W with k6:=x} K (n+88) 7) (by kernel_rfl) W.k6
theorem r6(W:WP):(aA aC (n+100) (d+10)).run bb (iO 6) (lf W a b c h 6) ⟨cC W zn 6,[],2,2⟩=(aA aC (n+88) (d+10)).run bb (iO 7) (lf W a b c h 7) ⟨cC W zn 7,[],2,2⟩:=(rA n d AA [.stm (aT 13)] _ _ 6 (by decide)).trans (s6 n d zn a b c h W (iO 7))
end
noncomputable def vt(W:WP):List MV:=[.tup [.int 0,.int 4,.int 0,.int 1],.tup [.int 0,.int 2,.int 0,.int 1],.tup [.int 0,.int 5,.int 0,.int 1],.tup [.int 0,.int 4,.int 1,.int 1],.tup [.int 0,.int W.a5,.int 6,.int 1],.tup [.int 0,.int 3,.int 128,.int 0],.tup [.int 1,.int W.a7,.int 0,.int 1],.tup [.int 1,.int 4,.int 2,.int 2],.tup [.int 1,.int W.a9,.int 1,.int 1],.tup [.int 1,.int 1,.int 0,.int 3],.tup [.int 2,.int W.a11,.int 0,.int 4],.tup [.int 2,.int 3,.int 0,.int 1],.tup [.int 2,.int 2,.int 1,.int 1],.tup [.int 3,.int 6,.int 2,.int 2],.tup [.int 3,.int 1,.int 0,.int 1],.tup [.int 3,.int 4,.int 6,.int 1],.tup [.int 3,.int 6,.int 32,.int 0],.tup [.int 4,.int 1,.int 0,.int 5],.tup [.int 4,.int 1,.int 0,.int 1],.tup [.int 4,.int 6,.int 0,.int 6],.tup [.int 4,.int 3,.int 1,.int 1],.tup [.int 0,.int 6,.int 0,.int 7]]
noncomputable def wO(p q j:Nat):Nat:=Nat.add (Nat.add 121 (Nat.mul 4 j)) (match Nat.ble j 7 with
 |true=>0
 |false=>Nat.add p (match Nat.ble j 10 with
  |true=>0
  |false=>Nat.add 2 (match Nat.ble j 13 with
   |true=>0
   |false=>q)))
noncomputable def mdD:List (Nat×String×Int×Int):=[(0,"f",0,0),(0,"f",0,0),(0,"f",0,0),(0,"f",1,0),(0,"f",6,0),(0,"f",128,0),(1,"f",0,0),(1,"f",2,0),(1,"f",1,0),(1,".ctor",32,0),(2,"f",0,1),(2,"f",0,0),(2,"f",1,0),(3,"f",2,0),(3,"f",0,0),(3,"f",6,0),(3,".ctor",32,0),(4,"f",0,0),(4,"f",0,0),(4,"f",0,0),(4,"f",1,0),(0,"g",0,0)]
def Ja(j:Nat):Nat×String×Int×Int:=match aH mdD j with
 |some p=>p
 |none=>(0,"f",0,0)
def mX(W:WP)(p q j:Nat):List MO:=.inst 303 (Nat.add (wO p q j) 1)::
 .idict 303 [(sO "mid",.int (.ofNat (Nat.succ j))),(sO "owner",.int (.ofNat (Nat.add (Ja j).1 64))),(sO "name",.str (sO (Ja j).2.1)),(sO "access",cG W (Nat.succ j)),(sO "flags",.int (Ja j).2.2.1),(sO "ngen",.int (Ja j).2.2.2),(sO "gnames",.ref (Nat.add (wO p q j) 2)),(sO "gbounds",.ref (match Nat.beq j 10 with|true=>Nat.add 166 p|false=>Nat.add (wO p q j) 3)),(sO "ret",.int 0),(sO "params",.tup []),(sO "pnames",.tup []),(sO "pflags",.tup []),(sO "body",.none),(sO "native",.int 0)]::
 .list []::.list []::(match j with
 |7=>match p with
  |0=>[]
  |_=>[.list []]
 |10=>[.list [.tup [.int 1,.tup []],.tup [.int 2,.tup []],.tup [.int 4,.tup []],.tup [.int 0,.tup [.int 16]],.tup [.int 0,.tup [.int 24]],.tup [.int 4,.tup [.int 17]]],.list [lQ W]]
 |13=>match q with
  |0=>[]
  |_=>[.list [.int 2,.int 1]]
 |_=>[])
def Xw(W:WP)(p q:Nat):Nat→Nat→List MO
 |_,0=>[]
 |j,k+1=>mX W p q j++Xw W p q (Nat.succ j) k
def Xx(p q:Nat):Nat→Nat→List MV
 |_,0=>[]
 |j,k+1=>.ref (wO p q j)::Xx p q (Nat.succ j) k
def sH(t:Nat):Nat→Nat→List MV
 |_,0=>[]
 |j,k+1=>match Nat.beq (Ja j).1 t with
  |true=>.int (.ofNat (Nat.succ j))::sH t (Nat.succ j) k
  |false=>sH t (Nat.succ j) k
def Xy(H:List MO)(i:Nat):MO:=match aH H i with
 |some x=>x
 |none=>.any
def xA(W:WP)(zn:List MV)(r i:Nat):MO:=Xy (cK zn r 7 [] (Tm W 7)) i
def xT(W:WP)(k j:Nat):MO:=Xy (tyA W [] [] k) j
def xU(f:Nat→List Nat)(j:Nat):MO:=Xy (g6 111 f) j
noncomputable def Tp(l0 l1 l2 l3 l4 l5 l6:List Nat)(i:Nat):List Nat:=match i with
 |0=>l0
 |1=>l1
 |2=>l2
 |3=>l3
 |4=>l4
 |5=>l5
 |_=>l6
def g8:Cx:=(fS (st 182)).names
def lO(k:Nat):List Stmt:=(fB (st 182)).drop k
def Tq:xpZ:=gV (lO 4)
def lmeY:List Stmt:=gW (lO 4)
def pA(i:Nat):List Itm:=[.forI Tq (.lst 119) i lmeY,.stm (lO 5)]
noncomputable def fq:MV:=.tup [.ref 29,.ref 30,.ref 31,.ref 32,.ref 33]
def ry(a b c:Int)(tl:Loc):Loc:=(sO "store",.ref 1)::(sO "world",fq)::(sO "a",.int a)::(sO "b",.int b)::(sO "c",.int c)::tl
def JG(a b c:Int)(tl:Loc):Loc:=ry a b c ((sO "ups",.ref 111)::(sO "kinds",.ref 33)::(sO "plan",.ref 119)::(sO "out",.ref 120)::tl)
def nmH(W:WP)(zn:List MV)(r:Nat)(ms t0 t1 t2 t3 t4 im:List MV)(T:List MO):List MO:=xA W zn r 0::xA W zn r 1::xA W zn r 2::xA W zn r 3::xA W zn r 4::xA W zn r 5::xA W zn r 6::xA W zn r 7::xA W zn r 8::xA W zn r 9::xA W zn r 10::xA W zn r 11::.list ms::xA W zn r 13::xA W zn r 14::xA W zn r 15::xA W zn r 16::xA W zn r 17::xA W zn r 18::xA W zn r 19::xA W zn r 20::xA W zn r 21::xA W zn r 22::xA W zn r 23::xA W zn r 24::xA W zn r 25::xA W zn r 26::xA W zn r 27::xA W zn r 28::xA W zn r 29::xA W zn r 30::xA W zn r 31::xA W zn r 32::xA W zn r 33::xT W 0 0::xT W 0 1::xT W 0 2::xT W 0 3::xT W 0 4::xT W 0 5::xT W 0 6::.list t0::xT W 0 8::xT W 0 9::xT W 0 10::xT W 1 0::xT W 1 1::xT W 1 2::xT W 1 3::xT W 1 4::xT W 1 5::xT W 1 6::.list t1::xT W 1 8::xT W 1 9::xT W 1 10::xT W 2 0::xT W 2 1::xT W 2 2::xT W 2 3::xT W 2 4::xT W 2 5::xT W 2 6::.list t2::xT W 2 8::xT W 2 9::xT W 2 10::xT W 3 0::xT W 3 1::xT W 3 2::xT W 3 3::xT W 3 4::xT W 3 5::xT W 3 6::.list t3::xT W 3 8::xT W 3 9::xT W 3 10::xT W 4 0::xT W 4 1::xT W 4 2::xT W 4 3::xT W 4 4::xT W 4 5::xT W 4 6::.list t4::.list im::xT W 4 9::xT W 4 10::xT W 5 0::xT W 5 1::xT W 5 2::xT W 5 3::xT W 5 4::xT W 5 5::xT W 5 6::xT W 5 7::xT W 5 8::xT W 5 9::xT W 5 10::xT W 6 0::xT W 6 1::xT W 6 2::xT W 6 3::xT W 6 4::xT W 6 5::xT W 6 6::xT W 6 7::xT W 6 8::xT W 6 9::xT W 6 10::T
def nmS(W:WP)(zn:List MV)(r:Nat)(f:Nat→List Nat)(ms t0 t1 t2 t3 t4 im out:List MV)(T:List MO):List MO:=nmH W zn r ms t0 t1 t2 t3 t4 im (xU f 0::xU f 1::xU f 2::xU f 3::xU f 4::xU f 5::xU f 6::xU f 7::.list (vt W)::.list out::T)
noncomputable def mIf(k:Nat):List MV:=match Nat.ble 18 k with
 |true=>.tup [.int 18,.int 16,.int 1]::(match Nat.ble 20 k with
  |true=>[.tup [.int 20,.int 16,.int 1]]
  |false=>[])
 |false=>[]
def nM(W:WP)(zn:List MV)(f:Nat→List Nat)(p q k:Nat)(T:List MO):List MO:=nmS W zn (match Nat.ble k 10 with|true=>24|false=>25) f (.none::Xx p q 0 k) (sH 0 0 k) (sH 1 0 k) (sH 2 0 k) (sH 3 0 k) (sH 4 0 k) (mIf k) ((qB W).take k) (Xw W p q 0 k++T)
abbrev nm(W:WP)(zn:List MV)(f:Nat→List Nat)(p q k:Nat):MS:=⟨nM W zn f p q k [],[],match k with|0=>aD|_=>match Nat.ble k 10 with|true=>12|false=>5,2⟩
noncomputable def hrN(W:WP)(j:Nat):Bool:=match j with
 |5=>false
 |7=> !W.b1
 |9=>false
 |13=>false
 |16=>false
 |17=>false
 |21=>false
 |_=>true
def nlT(W:WP)(p q k:Nat):Loc:=match k with
 |0=>[]
 |j+1=>(sO "name",.str (sO (Ja j).2.1))::(sO "mid",.int (.ofNat k))::(sO "m",.ref (wO p q j))::(sO "here",.bool (hrN W j))::(match Nat.ble k 10 with|true=>[]|false=>[(sO "own",lQ W)])
def Xz(W:WP)(j:Nat)(tl:Loc):Loc:=match aH (vt W) j with
 |some (.tup [x,y,z,u])=>(sO "owner",x)::(sO "access",y)::(sO "flags",z)::(sO "sort",u)::tl
 |_=>[]
abbrev nl(W:WP)(a b c:Int)(p q k:Nat):Loc:=JG a b c (match k with|0=>[]|j+1=>Xz W j (nlT W p q k))
abbrev na(W:WP)(a b c:Int)(p q k:Nat):Loc:=JG a b c (Xz W k (nlT W p q k))
noncomputable def PQ(p q:Nat):Prop:=(p=0∧q=0)∨(p=1∧q=0)∨(p=1∧q=1)
abbrev Jb(n d:Nat)(K:List Itm)(W:WP)(zn:List MV)(a b c:Int)(f:Nat→List Nat)(p q k:Nat):MR:=(aA aC n (d+10)).run g8 (.stm lmeY::K) (na W a b c p q k) (nm W zn f p q k)
abbrev bR(n d:Nat)(K:List Itm)(W:WP)(zn:List MV)(a b c:Int)(f:Nat→List Nat)(p q k:Nat):MR:=(aA aC n (d+10)).run g8 K (nl W a b c p q k) (nm W zn f p q k)
noncomputable def JH(k:Nat):Nat:=match k with
 |10=>85
 |17=>87
 |19=>87
 |_=>88
noncomputable def Q7(W:WP)(p:Nat):Prop:=(W.b1=true∧p=0)∨(W.b1=false∧p=1)
noncomputable def Jc(W:WP)(p q:Nat):Prop:=(W.b1=true∧p=0∧q=0)∨(W.b1=false∧W.b2=false∧p=1∧q=0)∨(W.b1=false∧W.b2=true∧p=1∧q=1)
section
variable(n d:Nat)(K:List Itm)(zn:List MV)(a b c:Int)(f:Nat→List Nat)(l0 l1 l2 l3 l4 l5 l6:List Nat)(W:WP)(p q:Nat)
theorem mG(h:PQ p q):oe (fun k=>Jb (n+100) d K W zn a b c f p q k=bR (n+JH k) d K W zn a b c f p q (k+1)) [0,1,2,3,4,5,6,8,9,11,12,14,15,16,17,18,19,20,21]:=by
 rcases h with⟨rfl,rfl⟩|⟨rfl,rfl⟩|⟨rfl,rfl⟩
 all_goals repeat (first|exact trivial|refine⟨by kernel_rfl,?_⟩)
theorem m7(h:Q7 W p):Jb (n+100) d K W zn a b c (Tp l0 (u1 W) l2 l3 l4 l5 l6) p q 7=bR (n+88) d K W zn a b c (Tp l0 (u1 W) l2 l3 l4 l5 l6) p q 8:=by
 cases W
 rcases h with⟨h,rfl⟩|⟨h,rfl⟩ <;>cases h <;>kernel_rfl
theorem m13(h:Jc W p q):Jb (n+100) d K W zn a b c (Tp l0 l1 l2 (3::u2 W) l4 l5 l6) p q 13=bR (n+88) d K W zn a b c (Tp l0 l1 l2 (3::u2 W) l4 l5 l6) p q 14:=by
 obtain⟨_,_,b2⟩:=W;rcases h with⟨h,rfl,rfl⟩|⟨h,h2,rfl,rfl⟩|⟨h,h2,rfl,rfl⟩
 ·cases h
  cases b2 <;>kernel_rfl
 ·cases h;cases h2;kernel_rfl
 ·cases h;cases h2;kernel_rfl
end
noncomputable def wH(a b c:Int)(h g:Nat):WP:=⟨h,!(eqB (c % 4) 3),!(eqB (b % 3) 2),eqB (a % 3) 0,1+a % 2,1+a / 2 % 2,2 - c % 2,2 - b % 2,eqB (a / 4 % 3) 1,eqB (b % 3) 1,eqB (c % 3) 2,eqB (b % 4) 3,eqB (a % 5) 2,eqB (c % 4) 1,eqB (a % 7) 3,1+a % 6,1+b % 6,1+(a+b) % 6,1+c % 6,g⟩
section
variable(n d:Nat)(zn:List MV)(a b c:Int)(h g:Nat)
theorem YA{h:Nat}(hh:h < 5):UU (1+a % 2) (1+a / 2 % 2) (2 - c % 2) (2 - b % 2) h=nB (wH a b c h g):=by
 have:h=0∨h=1∨h=2∨h=3∨h=4:=by lia
 rcases this with rfl|rfl|rfl|rfl|rfl <;>kernel_rfl
theorem q9b(H:List MO)(A B:List MV)(C:MO):bL (aA aC n (d+10)) bb (lb a b c h) (psh ⟨cK zn 16 0 [] [.list A,.list B],[],2,2⟩ C) (dj (aT 9)) (.ref (cK zn 16 0 [] [.list A,.list B]).length)=some (la a b c h [(sO "asms",.ref 29),(sO "kept",.ref 30),(sO "bases",.ref 31)],⟨cK zn 16 0 [] [.list A,.list B,C],[],2,2⟩):=by kernel_rfl
theorem YB(W:WP):(aA aC (n+100) (d+10)).run bb (iO 7) (lf W a b c h 7) ⟨cC W zn 7,[],2,2⟩=some (fq,⟨cC W zn 7,[],2,2⟩):=by kernel_rfl
theorem YC(S:MS)(W:WP):aL ⟨oy zn,[],2,2⟩ (some (fq,⟨cC W zn 7,[],2,2⟩))=some (fq,⟨cC W zn 7,[],2,2⟩):=by kernel_rfl
theorem Tr(W:WP):(⟨cK zn 16 0 [] [.list (nB W),.list (ik W),.list (oZ W),.list [.int (-1),.int (-1),.int (-1),.int (-1),.int (-1),.int (.ofNat W.home),.int 5],.list []],[],2,2⟩:MS)=⟨cC W zn 0,[],2,2⟩:=by kernel_rfl
theorem YD(W:WP):(aA aC (n+387) (d+10)).run bb (iO 0) (lf W a b c h 0) ⟨cC W zn 0,[],2,2⟩=some (fq,⟨cC W zn 7,[],2,2⟩):=by
 have e0:=r0 (n+287) d zn a b c h W;have e1:=r1 (n+276) d zn a b c h W;have e2:=r2 (n+265) d zn a b c h W;have e3:=r3 (n+254) d zn a b c h W;have e4:=r4 (n+243) d zn a b c h W;have e5:=r5 (n+231) d zn a b c h W;have e6:=r6 (n+219) d zn a b c h W;have e7:=YB (n+207) d zn a b c h W;rw [e0,e1,e2,e3,e4,e5,e6,e7]
theorem JI{h:Nat}(hh:h < 5)(hb:b % 5=.ofNat h):(aA aC (n+401) (d+11)).cal Xq [.ref 1,.int a,.int b,.int c] ⟨oy zn,[],2,2⟩=some (fq,⟨cC (wH a b c h g) zn 7,[],2,2⟩):=by
 refine (Xr n d a b c _).trans ?_;refine Eq.trans (congrArg (aL ⟨oy zn,[],2,2⟩) ?_) (YC zn ⟨[],[],2,2⟩ _);refine (q0 n d zn a b c).trans ?_;have e4:=q4e (n+386) d a b c ⟨cK zn 16 0 [] [],[],2,2⟩
 rw [show n+386+9=n+395 from rfl,hb]at e4
 have s4:=a8 (K:=[]) (tl:=aT 5) (by kernel_rfl) (by kernel_rfl) e4 (q4a (n+395) d a b c _ h)
 refine s4.trans ?_;refine (q5 n d zn a b c hh).trans ?_;rw [YA a b c g hh];refine (q8 n d zn a b c h _).trans ?_;have e9:=q9 (n+378) d a b c h ⟨cK zn 16 0 [] [.list (nB (wH a b c h g)),.list (ik (wH a b c h g))],[],2,2⟩
 have s9:=a8 (K:=[]) (tl:=aT 10) (by kernel_rfl) (by kernel_rfl) e9 (q9b (n+390) d zn a b c h [] _ _ _)
 refine s9.trans ?_;refine (q10 n d zn a b c h _ _ _).trans ?_;have e:=Tr zn (wH a b c h g);refine Eq.trans ?_ (YD n d zn a b c h (wH a b c h g));rw [←e];rfl
end
noncomputable def JJ:FI:=⟨968,st 182⟩
abbrev JK(W:WP)(zn:List MV)(lo:Nat)(T:List MO):MS:=⟨nmH W zn 24 [.none] [] [] [] [] [] [] T,[],lo,2⟩
def plV(W:WP)(k:Nat):MV:=match aH (vt W) k with
 |some v=>v
 |none=>.none
def mY(W:WP)(p q:Nat):List MO:=[.inst 303 (Nat.add (wO p q 10) 1),.idict 303 [(sO "mid",.int 11),(sO "owner",.int 66),(sO "name",.str (sO "f")),(sO "access",cG W 11),(sO "flags",.int 0),(sO "ngen",.int 0),(sO "gnames",.ref (Nat.add (wO p q 10) 2)),(sO "gbounds",.ref (Nat.add (wO p q 10) 3)),(sO "ret",.int 0),(sO "params",.tup []),(sO "pnames",.tup []),(sO "pflags",.tup []),(sO "body",.none),(sO "native",.int 0)],.list [],.list []]
abbrev sA(W:WP)(zn:List MV)(f:Nat→List Nat)(p q r lo:Nat)(T:List MO):MS:=⟨nmS W zn r f (.none::Xx p q 0 11) (sH 0 0 11) (sH 1 0 11) (sH 2 0 11) (sH 3 0 11) (sH 4 0 11) [] ((qB W).take 10) (Xw W p q 0 10++(mY W p q++T)),[],lo,2⟩
noncomputable def rz:MO:=.list [.tup [.int 1,.tup []],.tup [.int 2,.tup []],.tup [.int 4,.tup []],.tup [.int 0,.tup [.int 16]],.tup [.int 0,.tup [.int 24]],.tup [.int 4,.tup [.int 17]]]
abbrev nA(W:WP)(a b c:Int)(p q:Nat)(tl:Loc):Loc:=JG a b c (Xz W 10 ((sO "name",.str (sO "f"))::(sO "mid",.int 11)::(sO "m",.ref (wO p q 10))::(sO "here",.bool false)::tl))
def ownS:List Stmt:=d9 (lmeY.drop 5)
section
variable(n d:Nat)(K:List Itm)(zn:List MV)(a b c:Int)(f:Nat→List Nat)(W:WP)(p q:Nat)
theorem mA(h:PQ p q):Jb (n+100) d K W zn a b c f p q 10=(aA aC (n+94) (d+10)).run g8 (.stm ownS::.stm (lmeY.drop 6)::K) (nA W a b c p q []) (sA W zn f p q 24 12 []):=by
 rcases h with⟨rfl,rfl⟩|⟨rfl,rfl⟩|⟨rfl,rfl⟩ <;>kernel_rfl
theorem mBe(h:PQ p q):(aA aC (n+93) (d+10)).ev g8 (nA W a b c p q []) (sA W zn f p q 24 12 []) (bY ownS)=(fT (sA W zn f p q 25 5 [rz]) (.ref (Nat.add 165 p)) (.int (c % 6))).map (fun v=>(v,sA W zn f p q 25 5 [rz])):=by
 rcases h with⟨rfl,rfl⟩|⟨rfl,rfl⟩|⟨rfl,rfl⟩ <;>kernel_rfl
theorem mBi(h:PQ p q)(hg:W.g < 6):(fT (sA W zn f p q 25 5 [rz]) (.ref (Nat.add 165 p)) (.int (.ofNat W.g))).map (fun v=>(v,sA W zn f p q 25 5 [rz]))=some (lQ W,sA W zn f p q 25 5 [rz]):=by
 obtain⟨_,_,_,_,_,_,_,_,_,_,_,_,_,_,_,_,_,_,_,g⟩:=W
 have e:g=0∨g=1∨g=2∨g=3∨g=4∨g=5:=by
  have:g < 6:=hg
  lia
 rcases h with⟨rfl,rfl⟩|⟨rfl,rfl⟩|⟨rfl,rfl⟩ <;>rcases e with rfl|rfl|rfl|rfl|rfl|rfl <;>kernel_rfl
theorem mBa(S:MS):bL (aA aC n (d+10)) g8 (nA W a b c p q []) S (dj ownS) (lQ W)=some (nA W a b c p q [(sO "own",lQ W)],S):=by kernel_rfl
theorem mC(h:PQ p q):(aA aC (n+93) (d+10)).run g8 (.stm (ownS.drop 1)::.stm (lmeY.drop 6)::K) (nA W a b c p q [(sO "own",lQ W)]) (sA W zn f p q 25 5 [rz])=bR (n+85) d K W zn a b c f p q 11:=by
 rcases h with⟨rfl,rfl⟩|⟨rfl,rfl⟩|⟨rfl,rfl⟩ <;>kernel_rfl
theorem m10(h:PQ p q)(hg:W.g < 6)(hc:c % 6=.ofNat W.g):Jb (n+100) d K W zn a b c f p q 10=bR (n+85) d K W zn a b c f p q 11:=by
 refine (mA n d K zn a b c f W p q h).trans ?_;have e:=mBe n d zn a b c f W p q h;rw [hc]at e
 have s:=a8 (K:=.stm (lmeY.drop 6)::K) (tl:=ownS.drop 1) (by kernel_rfl) (by kernel_rfl) (e.trans (mBi zn f W p q h hg)) (mBa (n+93) d a b c W p q _)
 exact s.trans (mC n d K zn a b c f W p q h)
theorem YE:(⟨cC W zn 7,[],2,2⟩:MS)=JK W zn 2 []:=by kernel_rfl
theorem YF(S:MS):(aA aC (n+501) (d+11)).cal JJ [.ref 1,fq,.int a,.int b,.int c] S=aL S ((aA aC (n+500) (d+10)).run g8 [.stm (lO 0)] (ry a b c []) ⟨S.H,S.dyn,aD,S.bas⟩):=by kernel_rfl
theorem YG(S:MS):(aA aC (n+8) (d+10)).ev g8 (ry a b c []) S (bY (lO 0))=(aA aC (n+7) (d+10)).cal sC [.ref 31] S:=by kernel_rfl
theorem YH(S:MS):bL (aA aC n d) g8 (ry a b c []) S (dj (lO 0)) (.ref 111)=some (ry a b c [(sO "ups",.ref 111)],S):=by kernel_rfl
theorem YI:(aA aC (n+150) (d+1)).cal sC [.ref 31] (JK W zn aD [])=some (.ref 111,JK W zn aD (g6 111 (aO W))):=by
 refine (H8 aC (fun _ _ _=>rfl) _ _ n d).trans ?_
 obtain⟨_,b1,b2,b5⟩:=W
 cases b1 <;>cases b2 <;>cases b5 <;>kernel_rfl
theorem me1(h g:Nat)(p q:Nat):(aA aC (n+100) (d+10)).run g8 [.stm (lO 1)] (ry a b c [(sO "ups",.ref 111)]) (JK (wH a b c h g) zn aD (g6 111 f))=(aA aC (n+96) (d+10)).run g8 (pA 0) (nl (wH a b c h g) a b c p q 0) (nm (wH a b c h g) zn f p q 0):=by kernel_rfl
theorem me9:(aA aC (n+10) (d+10)).run g8 (pA 22) (nl W a b c p q 22) (nm W zn f p q 22)=some (.ref 120,nm W zn f p q 22):=by kernel_rfl
theorem vu:aO W=Tp [0] (u1 W) (u2 W) (3::u2 W) [4] (match W.b5 with|true=>[5,0]|false=>[5]) (6::u1 W):=by
 funext i
 match i with
 |0=>rfl
 |1=>rfl
 |2=>rfl
 |3=>rfl
 |4=>rfl
 |5=>rfl
 |n+6=>rfl
noncomputable def Jd:List Nat:=[0,1,2,3,4,5,6,7,8,9,10,11,12,13,14,15,16,17,18,19,20,21]
theorem lpV:oe (fun k=>aH (vt W) k=some (plV W k)) Jd:=by
 unfold Jd
 repeat (first|exact trivial|refine⟨by kernel_rfl,?_⟩)
theorem lpA:oe (fun k=>∀n S,bL (aA aC n (d+10)) g8 (nl W a b c p q k) S Tq (plV W k)=some (na W a b c p q k,S)) Jd:=by
 unfold Jd
 repeat (first|exact trivial|refine⟨fun n S=>by kernel_rfl,?_⟩)
theorem lpH(k:Nat):aH (nm W zn f p q k).H 119=some (.list (vt W)):=by kernel_rfl
theorem qa{k:Nat}(h:k < 22):k ∈ Jd:=by
 have:Jd=List.range 22:=by decide
 rw [this];exact mgZ h
theorem YJ(h:PQ p q)(h7:Q7 W p)(h13:Jc W p q)(hg:W.g < 6)(hc:c % 6=.ofNat W.g){k:Nat}(hk:k < 22):Jb (n+100) d K W zn a b c (aO W) p q k=bR (n+JH k) d K W zn a b c (aO W) p q (k+1):=by
 by_cases e7:k=7
 ·subst e7;rw [vu];exact m7 n d K zn a b c _ _ _ _ _ _ W p q h7
 by_cases e13:k=13
 ·subst e13;rw [vu];exact m13 n d K zn a b c _ _ _ _ _ _ W p q h13
 by_cases e10:k=10
 ·subst e10;exact m10 n d K zn a b c (aO W) W p q h hg hc
 have hm:=(by decide:∀k ∈ List.range 22,k≠7→k≠13→k≠10→k ∈ [0,1,2,3,4,5,6,8,9,11,12,14,15,16,17,18,19,20,21]) k (mgZ hk) e7 e13 e10
 have e:=dO (mG n d K zn a b c (aO W) W p q h) hm;exact e
theorem JL(k:Nat):∃e,JH k=85+e:=by
 unfold JH;split
 ·exact⟨0,rfl⟩
 ·exact⟨2,rfl⟩
 ·exact⟨2,rfl⟩
 ·exact⟨3,rfl⟩
theorem Ts{α:Type}(F:Nat→Nat→α)(v:α)(step:∀k n,k < 22→F (n+126) k=F (n+25+JH k) (k+1))(fin:∀n,F (n+110) 22=v):∀(m k n:Nat),k+m=22→F (n+16 * m+110) k=v:=by
 intro m
 induction m with
 |zero=>
  intro k n hk;obtain rfl:k=22:=hk;exact fin n
 |succ m ih=>
  intro k n hk;obtain⟨x,hx⟩:=JL k
  rw [show n+16 * (m+1)+110=n+16 * m+126 by lia,step k _ (by lia),show n+16 * m+25+JH k=n+x+16 * m+110 by lia]
  exact ih (k+1) (n+x) (by lia)
theorem YK(h:PQ p q)(h7:Q7 W p)(h13:Jc W p q)(hg:W.g < 6)(hc:c % 6=.ofNat W.g)(k n:Nat)(hk:k < 22):bR (n+126) d (pA k) W zn a b c (aO W) p q k=bR (n+25+JH k) d (pA (k+1)) W zn a b c (aO W) p q (k+1):=by
 have v1:=dO (lpV W) (qa hk);have v2:=dO (lpA d a b c W p q) (qa hk) (n+125) (nm W zn (aO W) p q k);have e0:=bh (n:=n+125) (body:=lmeY) (K:=[.stm (lO 5)]) (i:=k) (lpH zn (aO W) W p q k) v1 v2;have e1:=YJ (n+25) d (pA (k+1)) zn a b c W p q h h7 h13 hg hc hk;exact e0.trans e1
theorem YL(h:PQ p q)(h7:Q7 W p)(h13:Jc W p q)(hg:W.g < 6)(hc:c % 6=.ofNat W.g)(m k n:Nat)(hk:k+m=22):bR (n+16 * m+110) d (pA k) W zn a b c (aO W) p q k=some (.ref 120,nm W zn (aO W) p q 22):=
 Ts (fun fu k=>bR fu d (pA k) W zn a b c (aO W) p q k) _ (fun k n hk=>YK d zn a b c W p q h h7 h13 hg hc k n hk) (fun n=>me9 (n+100) d zn a b c (aO W) W p q) m k n hk
end
section
variable(n d:Nat)(zn:List MV)(a b c:Int)
theorem YM(W:WP)(p q:Nat):aL (JK W zn 2 []) (some (.ref 120,nm W zn (aO W) p q 22))=some (.ref 120,⟨nM W zn (aO W) p q 22 [],[],2,2⟩):=by kernel_rfl
theorem JM{h g:Nat}(hg:g < 6)(hc:c % 6=.ofNat g):∃p q,PQ p q∧(aA aC (n+501) (d+11)).cal JJ [.ref 1,fq,.int a,.int b,.int c] ⟨cC (wH a b c h g) zn 7,[],2,2⟩=some (.ref 120,⟨nM (wH a b c h g) zn (aO (wH a b c h g)) p q 22 [],[],2,2⟩):=by
 have hW:(wH a b c h g).g=g:=rfl
 have ex:∃p q,PQ p q∧Q7 (wH a b c h g) p∧Jc (wH a b c h g) p q:=by
  unfold Q7 Jc
  cases h1:(wH a b c h g).b1 with
  |true=>exact⟨0,0,.inl ⟨rfl,rfl⟩,.inl ⟨rfl,rfl⟩,.inl ⟨rfl,rfl,rfl⟩⟩
  |false=>cases h2:(wH a b c h g).b2 with
   |false=>exact⟨1,0,.inr (.inl ⟨rfl,rfl⟩),.inr ⟨rfl,rfl⟩,.inr (.inl ⟨rfl,rfl,rfl,rfl⟩)⟩
   |true=>exact⟨1,1,.inr (.inr ⟨rfl,rfl⟩),.inr ⟨rfl,rfl⟩,.inr (.inr ⟨rfl,rfl,rfl,rfl⟩)⟩
 obtain⟨p,q,hpq,h7,h13⟩:=ex;refine⟨p,q,hpq,?_⟩;rw [YE];refine (YF n d a b c _).trans ?_;refine Eq.trans (congrArg (aL (JK (wH a b c h g) zn 2 [])) ?_) (YM zn _ p q);have u:=YI (n+348) (d+9) zn (wH a b c h g);have e:=(YG (n+491) d a b c (JK (wH a b c h g) zn aD [])).trans u
 have s:=a8 (K:=[]) (tl:=lO 1) (by kernel_rfl) (by kernel_rfl) e (YH (n+499) (d+10) a b c _)
 refine s.trans ?_;have s1:=me1 (n+399) d zn a b c (aO (wH a b c h g)) h g p q;exact s1.trans (YL d zn a b c (wH a b c h g) p q hpq h7 h13 hg hc 22 0 (n+33) rfl)
end
noncomputable def UW:List Int→Int
 |x::_=>x
 |[]=>0
noncomputable def UX:List Int→Int
 |_::y::_=>y
 |[x]=>x / 3
 |[]=>0
noncomputable def YN:List Int→Int
 |_::_::z::_=>z
 |[x,_]=>x / 5
 |[x]=>x / 5
 |[]=>0
noncomputable def sI(ns:List Int):List MV:=ns.map .int
abbrev Yz(ns:List Int):MS:=⟨[.list (sI ns)],[],aD,aD⟩
def AB(e:Nat):List MO:=[.inst 625 (Nat.add 212 e),.idict 625 [(sO "kt",.ref 3),(sO "bases",.ref (Nat.add 213 e)),(sO "ifaces",.ref (Nat.add 214 e)),(sO "sorts",.ref (Nat.add 215 e)),(sO "variances",.ref (Nat.add 216 e)),(sO "unders",.ref (Nat.add 217 e)),(sO "bounds",.ref (Nat.add 218 e)),(sO "gflags",.ref (Nat.add 219 e)),(sO "news",.ref (Nat.add 220 e)),(sO "store",.ref 1)],.dict [],.dict [],.dict [],.dict [],.dict [],.dict [],.dict [],.dict []]
def JN(e:Nat):List MO:=[.inst 817 (Nat.add 222 e),.idict 817 [(sO "store",.ref 1),(sO "asm",.int 2),(sO "fns",.ref (Nat.add 223 e)),(sO "vars",.ref (Nat.add 224 e)),(sO "of_mid",.ref (Nat.add 225 e)),(sO "diags",.ref (Nat.add 226 e)),(sO "inits",.ref (Nat.add 229 e)),(sO "sinits",.ref (Nat.add 230 e)),(sO "consts",.ref (Nat.add 231 e))],
 .list [.none],.list [.none],.dict [],.inst 796 (Nat.add 227 e),.idict 796 [(sO "rows",.ref (Nat.add 228 e))],.list [],.dict [],.dict [],.dict [],
 .inst 866 (Nat.add 233 e),.idict 866 [(sO "unit",.ref (Nat.add 221 e)),(sO "store",.ref 1),(sO "kt",.ref 3),(sO "host",.ref (Nat.add 211 e)),(sO "asm",.int 2),(sO "kinds",.ref (Nat.add 234 e)),(sO "unmet",.ref (Nat.add 235 e)),(sO "told",.ref (Nat.add 236 e)),(sO "tparams",.ref (Nat.add 237 e)),(sO "owner",.int 0),(sO "mid",.int 0),(sO "early",.int 0),(sO "static",.int 0)],.dict [],.dict [],.list [],.dict []]
abbrev JO(a b c:Int)(tl:Loc):Loc:=wN (.ref 0) a b c ((sO "store",.ref 1)::(sO "world",fq)::(sO "methods",.ref 120)::tl)
abbrev YO(a b c:Int)(e:Nat):Loc:=JO a b c [(sO "host",.ref (Nat.add 211 e)),(sO "cx",.ref (Nat.add 232 e))]
abbrev Yv(W:WP)(zn:List MV)(f:Nat→List Nat)(p q:Nat)(T:List MO):MS:=⟨nM W zn f p q 22 T,[],2,2⟩
section
variable(n d:Nat)(zn:List MV)(a b c:Int)(f:Nat→List Nat)(W:WP)(p q:Nat)(S:MS)
theorem wx1{ns:List Int}(h:ns.length≤3):(aA aC (n+30) d).ev dg [(sO "nums",.ref 0)] (Yz ns) (bY (aw 1))=some (.int (UW ns),Yz ns):=by
 match ns,h with
 |[],_=>kernel_rfl
 |[x],_=>kernel_rfl
 |[x,y],_=>kernel_rfl
 |[x,y,z],_=>kernel_rfl
 |_::_::_::_::_,h=>simp at h
theorem YP:bL (aA aC n d) dg [(sO "nums",.ref 0)] S (dj (aw 1)) (.int a)=some ([(sO "nums",.ref 0),(sO "a",.int a)],S):=by kernel_rfl
theorem wx2{ns:List Int}(h:ns.length≤3):(aA aC (n+30) d).ev dg [(sO "nums",.ref 0),(sO "a",.int (UW ns))] (Yz ns) (bY (aw 2))=some (.int (UX ns),Yz ns):=by
 match ns,h with
 |[],_=>kernel_rfl
 |[x],_=>kernel_rfl
 |[x,y],_=>kernel_rfl
 |[x,y,z],_=>kernel_rfl
 |_::_::_::_::_,h=>simp at h
theorem YQ:bL (aA aC n d) dg [(sO "nums",.ref 0),(sO "a",.int a)] S (dj (aw 2)) (.int b)=some ([(sO "nums",.ref 0),(sO "a",.int a),(sO "b",.int b)],S):=by kernel_rfl
theorem wx3{ns:List Int}(h:ns.length≤3):(aA aC (n+30) d).ev dg [(sO "nums",.ref 0),(sO "a",.int (UW ns)),(sO "b",.int (UX ns))] (Yz ns) (bY (aw 3))=some (.int (YN ns),Yz ns):=by
 match ns,h with
 |[],_=>kernel_rfl
 |[x],_=>kernel_rfl
 |[x,y],_=>kernel_rfl
 |[x,y,z],_=>kernel_rfl
 |_::_::_::_::_,h=>simp at h
theorem YR:bL (aA aC n d) dg [(sO "nums",.ref 0),(sO "a",.int a),(sO "b",.int b)] S (dj (aw 3)) (.int c)=some (wN (.ref 0) a b c [],S):=by kernel_rfl
theorem wx4:(aA aC (n+149) (d+10)).ev dg (wN (.ref 0) a b c []) ⟨[.list zn],[],aD,aD⟩ (bY (aw 4))=some (.ref 1,⟨oy zn,[],2,2⟩):=by kernel_rfl
theorem YS:bL (aA aC n d) dg (wN (.ref 0) a b c []) S (dj (aw 4)) (.ref 1)=some (wN (.ref 0) a b c [(sO "store",.ref 1)],S):=by kernel_rfl
theorem wx5:(aA aC (n+8) d).ev dg (wN (.ref 0) a b c [(sO "store",.ref 1)]) S (bY (aw 5))=(aA aC (n+7) d).cal Xq [.ref 1,.int a,.int b,.int c] S:=by kernel_rfl
theorem YT:bL (aA aC n d) dg (wN (.ref 0) a b c [(sO "store",.ref 1)]) S (dj (aw 5)) fq=some (wN (.ref 0) a b c [(sO "store",.ref 1),(sO "world",fq)],S):=by kernel_rfl
theorem wx6:(aA aC (n+8) d).ev dg (wN (.ref 0) a b c [(sO "store",.ref 1),(sO "world",fq)]) S (bY (aw 6))=(aA aC (n+7) d).cal JJ [.ref 1,fq,.int a,.int b,.int c] S:=by kernel_rfl
theorem YU:bL (aA aC n d) dg (wN (.ref 0) a b c [(sO "store",.ref 1),(sO "world",fq)]) S (dj (aw 6)) (.ref 120)=some (JO a b c [],S):=by kernel_rfl
theorem wx7(h:PQ p q):(aA aC (n+100) (d+10)).ev dg (JO a b c []) (Yv W zn f p q []) (bY (aw 7))=some (.ref (Nat.add 211 (Nat.add p q)),Yv W zn f p q (AB (Nat.add p q))):=by
 rcases h with⟨rfl,rfl⟩|⟨rfl,rfl⟩|⟨rfl,rfl⟩ <;>kernel_rfl
theorem YV(e:Nat):bL (aA aC n d) dg (JO a b c []) S (dj (aw 7)) (.ref (Nat.add 211 e))=some (JO a b c [(sO "host",.ref (Nat.add 211 e))],S):=by kernel_rfl
theorem wx8(h:PQ p q):(aA aC (n+100) (d+10)).ev dg (JO a b c [(sO "host",.ref (Nat.add 211 (Nat.add p q)))]) (Yv W zn f p q (AB (Nat.add p q))) (bY (aw 8))=some (.ref (Nat.add 232 (Nat.add p q)),Yv W zn f p q (AB (Nat.add p q)++JN (Nat.add p q))):=by
 rcases h with⟨rfl,rfl⟩|⟨rfl,rfl⟩|⟨rfl,rfl⟩ <;>kernel_rfl
theorem YW(e:Nat):bL (aA aC n d) dg (JO a b c [(sO "host",.ref (Nat.add 211 e))]) S (dj (aw 8)) (.ref (Nat.add 232 e))=some (YO a b c e,S):=by kernel_rfl
theorem wx9(h:PQ p q):(aA aC (n+100) (d+10)).tst dg (YO a b c (Nat.add p q)) (Yv W zn f p q (AB (Nat.add p q)++JN (Nat.add p q))) (aq (aw 9))=some (false,Yv W zn f p q (AB (Nat.add p q)++JN (Nat.add p q))):=by
 rcases h with⟨rfl,rfl⟩|⟨rfl,rfl⟩|⟨rfl,rfl⟩ <;>kernel_rfl
end
noncomputable def lP:List (Nat×Bool)→Nat→Nat→Option Nat
 |[],_,_=>none
 |x::r,k,i=>match Nat.beq x.1 i,x.2 with
  |true,true=>some k
  |_,_=>lP r (Nat.succ k) i
theorem nU:∀{l:List (Nat×Bool)} {k i j:Nat},lP l k i=some j→∃n,j=k+n∧(l.map (·.1))[n]? =some i
 |[],k,i,j,h=>by cases h
 |x::r,k,i,j,h=>by
  unfold lP at h;split at h
  ·rename_i h1 h2;cases h
   exact⟨0,rfl,by rw [←Nat.eq_of_beq_eq_true h1];rfl⟩
  ·obtain⟨n,h1,h2⟩:=nU h
   exact⟨n+1,by rw [h1,Nat.succ_add,Nat.add_succ],h2⟩
noncomputable def UY(i:Nat):List Nat→Bool
 |[]=>false
 |x::r=>Nat.beq x i || UY i r
def JP:List Nat→Bool
 |[]=>true
 |x::r=> !UY x r && JP r
theorem qb{i:Nat}:∀{l:List Nat},i ∈ l→UY i l=true
 |x::r,h=>by
  unfold UY;rcases mcZ h with rfl|h
  ·rw [Nat.beq_refl];rfl
  ·rw [qb h];exact Bool.or_true _
theorem qc:∀{l:List Nat},JP l=true→l.Nodup
 |[],_=>.nil
 |x::r,h=>by
  obtain⟨h1,h2⟩:=abZ h
  refine .cons (fun y hy e=>?_) (qc h2)
  subst e;rw [qb hy]at h1;cases h1
noncomputable def ltN(n:Nat):List Nat→Bool
 |[]=>true
 |x::r=>Nat.blt x n && ltN n r
theorem vv{n:Nat}:∀{l:List Nat},ltN n l=true→∀i ∈ l,i < n
 |x::r,h,i,hi=>by
  obtain⟨h1,h2⟩:=abZ h;rcases mcZ hi with rfl|hi
  ·exact blt_iff.mp h1
  ·exact vv h2 i hi
noncomputable def YX:MO→Bool
 | .ktb=>false
 |_=>true
def JQ:List MO→Bool
 |[]=>true
 |x::r=>YX x && JQ r
theorem qd:∀{l:List MO},JQ l=true→∀o ∈ l,o≠ .ktb
 |x::r,h,o,ho=>by
  obtain⟨h1,h2⟩:=abZ h;rcases mcZ ho with rfl|ho
  ·intro e;subst e;cases h1
  ·exact qd h2 o ho
noncomputable def Tt(k:Nat)(b:Bool):List (Nat×Bool):=[(k,b),(Nat.add k 11,b),(Nat.add k 22,b),(Nat.add k 33,b),(Nat.add k 44,b),(Nat.add k 55,b),(Nat.add k 66,b)]
noncomputable def vw:List Nat→List (Nat×Bool)
 |[]=>[]
 |k::r=>(k,true)::(Nat.succ k,true)::vw r
def mrS(p q:Nat):Nat→Nat→List Nat
 |_,0=>[]
 |j,k+1=>wO p q j::mrS p q (Nat.succ j) k
def qe(p q:Nat):List (Nat×Bool):=(1,true)::(2,true)::(3,true)::(4,true)::(5,true)::(6,true)::(7,true)::(8,true)::(9,true)::(16,true)::
 (vw [34,45,56,67,78,89,100,17]++((12,true)::(vw (mrS p q 0 22)++(vw [Nat.add 211 (Nat.add p q)]++((29,true)::(30,true)::(31,true)::(32,true)::(33,true)::(120,true)::
 (Tt 41 true++(Tt 42 true++(Tt 39 true++(Tt 37 true++(Tt 38 true++((24,true)::(47,false)::(58,false)::(69,false)::(80,false)::(91,false)::(102,false)::(Nat.add 166 p,true)::(vw [Nat.add 232 (Nat.add p q)]++[(0,true)]))))))))))))
def AC(W:WP)(zn:List MV):List MO:=(eq W 0++[MO.list zn]).drop 9
abbrev vx(W:WP)(zn:List MV):List MO:=MO.inst 324 1::MO.idict 324 [(sO "kt",.ref 2),(sO "types",.ref 9),(sO "fields_",.anyv),(sO "methods",.ref 26),(sO "names",.anyv),(sO "asms",.anyv),(sO "entry",.int 0)]::bH 2 [] [] [] []++AC W zn
section
variable(W:WP)(zn:List MV)(p q:Nat)
theorem nV(τ:Nat→Option Nat)(H:List MO):∀a b:List Nat,lN τ H (a++b)=lN τ H a++lN τ H b
 |[],b=>rfl
 |i::a,b=>congrArg (_::·) (nV τ H a b)
theorem qf(τ:Nat→Option Nat):∀ns:List Int,lM τ (ns.map .int)=ns.map .int
 |[]=>rfl
 |n::r=>congrArg (MV.int n::·) (qf τ r)
theorem Tu(h:PQ p q):JP ((qe p q).map (·.1))=true:=by
 rcases h with⟨rfl,rfl⟩|⟨rfl,rfl⟩|⟨rfl,rfl⟩ <;>kernel_rfl
theorem Tv(h:PQ p q)(f:Nat→List Nat):ltN (nM W zn f p q 22 (AB (Nat.add p q)++JN (Nat.add p q))).length ((qe p q).map (·.1))=true:=by
 rcases h with⟨rfl,rfl⟩|⟨rfl,rfl⟩|⟨rfl,rfl⟩ <;>kernel_rfl
theorem Tw(τ:Nat→Option Nat):ox τ (lQ W)=lQ W:=by
 unfold lQ
 split <;>rfl
theorem JR(h:PQ p q)(f:Nat→List Nat)(ns:List Int):lN (lP (qe p q) 0) (nM W (ns.map .int) f p q 22 (AB (Nat.add p q)++JN (Nat.add p q))) (((qe p q).map (·.1)).take 124)++[MO.list (ns.map .int)]=bO (.list [ox (lP (qe p q) 0) (lQ W)]) (vx W (ns.map .int)) 121:=by
 rcases h with⟨rfl,rfl⟩|⟨rfl,rfl⟩|⟨rfl,rfl⟩ <;>kernel_rfl
theorem JS:bO (.list [lQ W]) (vx W zn) 121=vx W zn:=by kernel_rfl
theorem AD(h:PQ p q)(f:Nat→List Nat)(ns:List Int):lN (lP (qe p q) 0) (nM W (ns.map .int) f p q 22 (AB (Nat.add p q)++JN (Nat.add p q))) (((qe p q).map (·.1)).take 124)++[MO.list (ns.map .int)]=vx W (ns.map .int):=by
 rw [JR W p q h f ns,Tw,JS]
theorem YY:(qe p q).map (·.1)=((qe p q).map (·.1)).take 124++[0]:=by kernel_rfl
theorem JT(h:PQ p q)(f:Nat→List Nat)(ns:List Int):lN (lP (qe p q) 0) (nM W (ns.map .int) f p q 22 (AB (Nat.add p q)++JN (Nat.add p q))) ((qe p q).map (·.1))=vx W (ns.map .int):=by
 rw [YY,nV,←AD W p q h f ns]
 congr 1
 show [MO.list (lM _ (ns.map .int))]=_
 rw [qf]
theorem AE:JQ (AC W zn)=true:=by kernel_rfl
theorem Tx:(MO.inst 324 1::.idict 324 [(sO "kt",.ref 2),(sO "types",.ref 9),(sO "fields_",.anyv),(sO "methods",.ref 26),(sO "names",.anyv),(sO "asms",.anyv),(sO "entry",.int 0)]::.ktb::.any::.any::.any::.any::.any::.any::AC W zn:List MO)=eq W 0++[MO.list zn]:=by kernel_rfl
theorem Tz(h:PQ p q)(a b c:Int):(YO a b c (Nat.add p q)).map (fun x=>(x.1,ox (lP (qe p q) 0) x.2))=lY a b c []:=by
 rcases h with⟨rfl,rfl⟩|⟨rfl,rfl⟩|⟨rfl,rfl⟩ <;>kernel_rfl
end
theorem six(z:Int):1+z % 6=1∨1+z % 6=2∨1+z % 6=3∨1+z % 6=4∨1+z % 6=5∨1+z % 6=6:=by lia
theorem wok(a b c:Int){h:Nat}(hh:h < 5)(g:Nat):UN (wH a b c h g):=⟨hh,fun m hm=>match m,hm with
 |0,_=>.inr (.inr (.inr (.inl rfl)))
 |1,_=>.inr (.inl rfl)
 |2,_=>.inr (.inr (.inr (.inr (.inl rfl))))
 |3,_=>.inr (.inr (.inr (.inl rfl)))
 |4,_=>six _
 |5,_=>.inr (.inr (.inl rfl))
 |6,_=>six _
 |7,_=>.inr (.inr (.inr (.inl rfl)))
 |8,_=>six _
 |9,_=>.inl rfl
 |10,_=>six _
 |11,_=>.inr (.inr (.inl rfl))
 |12,_=>.inr (.inl rfl)
 |13,_=>.inr (.inr (.inr (.inr (.inr rfl))))
 |14,_=>.inl rfl
 |15,_=>.inr (.inr (.inr (.inl rfl)))
 |16,_=>.inr (.inr (.inr (.inr (.inr rfl))))
 |17,_=>.inl rfl
 |18,_=>.inl rfl
 |19,_=>.inr (.inr (.inr (.inr (.inr rfl))))
 |20,_=>.inr (.inr (.inl rfl))
 |21,_=>.inr (.inr (.inr (.inr (.inr rfl))))
 |_+22,hm=>absurd hm (by lia)⟩
theorem jr{τ:Nat→Option Nat}{y:Str}:∀{zl:Loc} {v:MV},(zl.map fun x=>(x.1,ox τ x.2)).lookup y=some v→∃u,zl.lookup y=some u∧v=ox τ u
 |[],v,e=>by cases e
 |p::r,v,e=>by
  rw [List.map_cons,ylZ]at e;rw [ylZ];split at e
  ·rename_i q;cases e;exact⟨_,rfl,rfl⟩
  ·exact jr e
theorem LocR.rn{F:Fm}{X:List (Addr×Obj)}{l l':LS}{zl:Loc}{m:Str→Option Value}{τ:Nat→Option Nat}(h:LocR F X l zl m)(hv:∀v x,l.VR v x→l'.VR (ox τ v) x):LocR F X l' (zl.map fun x=>(x.1,ox τ x.2)) m:=fun y v e i=>by
 obtain⟨u,h1,rfl⟩:=jr e;obtain⟨v',h2,h3⟩:=h y u h1 i;exact⟨v',hv _ _ h2,h3⟩
theorem ls1:aw 1=.Assign [dj (aw 1)] (bY (aw 1)) (wD (aw 1))::aw 2:=by kernel_rfl
theorem ls2:aw 2=.Assign [dj (aw 2)] (bY (aw 2)) (wD (aw 2))::aw 3:=by kernel_rfl
theorem ls3:aw 3=.Assign [dj (aw 3)] (bY (aw 3)) (wD (aw 3))::aw 4:=by kernel_rfl
theorem ls4:aw 4=.Assign [dj (aw 4)] (bY (aw 4)) (wD (aw 4))::aw 5:=by kernel_rfl
theorem ls5:aw 5=.Assign [dj (aw 5)] (bY (aw 5)) (wD (aw 5))::aw 6:=by kernel_rfl
theorem ls6:aw 6=.Assign [dj (aw 6)] (bY (aw 6)) (wD (aw 6))::aw 7:=by kernel_rfl
theorem ls7:aw 7=.Assign [dj (aw 7)] (bY (aw 7)) (wD (aw 7))::aw 8:=by kernel_rfl
theorem ls8:aw 8=.Assign [dj (aw 8)] (bY (aw 8)) (wD (aw 8))::aw 9:=by kernel_rfl
theorem ls9:aw 9=.If (aq (aw 9)) (d9 (aw 9)) [] (Vz (aw 9))::aw 10:=by kernel_rfl
theorem AF{w:World}{W:WP}{T H:List MO}{RL:List (Addr×Obj)}(hH:H=eq W 0++T)(hl:H.length=RL.length):sB ⟨w,(H.take 123).zip RL,[],[]⟩ W:=by
 unfold sB
 show (((H.take 123).zip RL).map (·.1)).take 123=base W
 rw [List.map_fst_zip (by rw [yeZ,hl];lia),List.take_take,hH]
 kernel_rfl
theorem AG:pr:=by
 intro w F S R hs ns hn m l s n0 hl Q E hQ
 have hcx:F.scope.names=dg:=by rw [hs];rfl
 have I:=kQ (kO (⟨w,[],[],[]⟩:Wd)) kP;have R:Room F.A (22+11):=R
 obtain⟨h,hb,hh⟩:=bm (k:=UX ns) (j:=5) (by decide) (n:=5) rfl
 obtain⟨g,hc,hg⟩:=bm (k:=YN ns) (j:=6) (by decide) (n:=6) rfl
 show wpAny _ _ (execs (aw 1) F.env) Q E s
 rw [ls1]
 refine ch (n:=0+30) hcx I S R (by kernel_rfl) (wx1 0 (22+11) hn) (YP (0+30) (22+11) _ _) n0 hl fun s1 m1 l1 n1 hl1 y1=>?_
 rw [ls2]
 refine ch (n:=0+30) hcx I S R (by kernel_rfl) (wx2 0 (22+11) hn) (YQ (0+30) (22+11) _ _ _) n1 hl1 fun s2 m2 l2 n2 hl2 y2=>?_
 rw [ls3]
 refine ch (n:=0+30) hcx I S R (by kernel_rfl) (wx3 0 (22+11) hn) (YR (0+30) (22+11) _ _ _ _) n2 hl2 fun s3 m3 l3 n3 hl3 y3=>?_
 generalize UW ns=a at *;generalize UX ns=b at *;generalize YN ns=c at *;rw [ls4]
 refine ch (n:=0+149) hcx I S R (by kernel_rfl) (wx4 0 23 (sI ns) a b c) (YS (0+149) (22+11) a b c _) n3 hl3 fun s4 m4 l4 n4 hl4 y4=>?_
 rw [ls5];have u5:=JI 0 22 (sI ns) a b c g hh hb
 rw [show 0+401=394+7 from rfl]at u5
 refine ch (n:=394+8) hcx I S R (by kernel_rfl) ((wx5 394 (22+11) a b c _).trans u5) (YT (394+8) (22+11) a b c _) n4 hl4 fun s5 m5 l5 n5 hl5 y5=>?_
 rw [ls6];obtain⟨p,q,hpq,u6⟩:=JM 0 22 (sI ns) a b c (h:=h) hg hc
 rw [show 0+501=494+7 from rfl]at u6
 refine ch (n:=494+8) hcx I S R (by kernel_rfl) ((wx6 494 (22+11) a b c _).trans u6) (YU (494+8) (22+11) a b c _) n5 hl5 fun s6 m6 l6 n6 hl6 y6=>?_
 have hWok:=wok a b c hh g;have hWg:(wH a b c h g).g < 6:=hg;have hWc:c % 6=.ofNat (wH a b c h g).g:=hc;generalize wH a b c h g=W at *;rw [ls7]
 refine ch (n:=0+100) hcx I S R (by kernel_rfl) (wx7 0 23 (sI ns) a b c (aO W) W p q hpq) (YV (0+100) (22+11) a b c _ _) n6 hl6 fun s7 m7 l7 n7 hl7 y7=>?_
 rw [ls8]
 refine ch (n:=0+100) hcx I S R (by kernel_rfl) (wx8 0 23 (sI ns) a b c (aO W) W p q hpq) (YW (0+100) (22+11) a b c _ _) n7 hl7 fun s8 m8 l8 n8 hl8 y8=>?_
 rw [ls9]
 refine G3 (n:=0+100) hcx I S R (wx9 0 23 (sI ns) a b c (aO W) W p q hpq) n8 hl8 fun s9 l9 n9 hl9 y9=>?_
 have sm9:Same s s9:=y1.trans (y2.trans (y3.trans (y4.trans (y5.trans (y6.trans (y7.trans (y8.trans y9)))))))
 obtain⟨l',nr,hv⟩:=n9.reroot (σ:=(qe p q).map (fun x:Nat×Bool=>x.1)) (τ:=lP (qe p q) 0) (a:=MO.inst 324 1) (b:=MO.idict 324 [(sO "kt",.ref 2),(sO "types",.ref 9),(sO "fields_",.anyv),(sO "methods",.ref 26),(sO "names",.anyv),(sO "asms",.anyv),(sO "entry",.int 0)]) (r:=AC W (sI ns)) (qc (Tu p q hpq)) (fun i j e=>by
  obtain⟨k,h1,h2⟩:=nU e
  rw [h1,Nat.zero_add];exact h2) (fun i hi=>vv (Tv W (sI ns) p q hpq (aO W)) i hi) (JT W p q hpq (aO W) ns) (qd (AE W (sI ns))) (fun e=>by cases e) (fun e=>by cases e)
 have hlr:=hl9.rn hv;rw [Tz p q hpq a b c]at hlr;have hH:=Tx W (sI ns);have zr:=nr.H.len';have hOn:sB _ W:=AF (w:=w) (RL:=l'.RL) hH zr.symm;rw [hH]at nr hOn;have S2:Sit _ F:=(⟨S.B,S.K,S.T,S.fr,S.hd,S.kind,S.dbg,S.gen,S.co,S.cdc⟩:Sit ⟨w,((eq W 0++[MO.list (sI ns)]).take 123).zip l'.RL,[],[]⟩ F)
 obtain⟨st',e2⟩:=Ti (a:=a) (b:=b) (Xl W (D:=33) (by decide) hWc (cB ns)) hn 0 aD (ba:=123) (lrZ _)
 have I2:=kQ (ac (zV hWok hOn) (rv hWg hOn)) (ae zW (rx W)) 100
 refine x8 (d:=33) hcx I2 S2 R (zl:=lY a b c []) (st:=BT W 0 (cB ns) [] aD 123) (e2) (fun e=>by cases e) nr hlr fun s2 m2 l2 v' nn y r=>?_
 cases r;exact hQ s2 nn.F.keep (sm9.trans y)
theorem holds:PySem.Challenge.rw_xm0256_01.Holds:=uP (Vt AG)
end Mine
theorem PySem.Challenge.cw_xm0256_01_holds : PySem.Challenge.rw_xm0256_01.Holds :=
 Mine.holds
