import PyProof.Rows.All
import Wide.All
import OpenK.AllK
import Wide.FinOn
import PySem.Str
import PySem.PyData
import PyProof.Rows.SetFrom
import KE.KDictList
import PyProof.FactsAll.set_1
import PyProof.FactsAll.set_2
import Lean
import PySem.Challenge.RW_pq0004_01
set_option Elab.async false
set_option maxRecDepth 100000
set_option linter.all false
set_option maxHeartbeats 8000000
namespace Mine
open PySem PySem.W PySem.Calls PyProof.Rows
noncomputable def R0:OpenRow:=PySem.Challenge.rw_pq0004_01.row
noncomputable def P0:Program:=R0.toRowW.prog
noncomputable def Qh:Nat→List Stmt→Stmt
  | _, []=> .Pass ⟨0,0,0,0⟩
  | 0,s::_=>s
  | n+1,_::r=>Qh n r
noncomputable def Yi:Stmt→List Stmt
  | .ClassDef _ _ _ b _ _ _ _ _ _ _=>b.filter fun s=>match s with | .FunctionDef .. =>true | _=>false
  | _=> []
noncomputable def ST:List Bool→List Stmt→List Stmt
  | true::bs,s::r=>s::ST bs r
  | false::bs,_::r=>ST bs r
  | _,_=> []
noncomputable def Ix:Program:={ P0 with main:={ P0.main with body:=ST [true,false,true,true,false,true,true,true,false,true,false,true,false,true,false,true,true,true,true,true,true,true,true] P0.main.body } }
noncomputable def SU (a:Addr)(qual:String)(s:Stmt)(n m:Nat)(md:Value):List (Addr×Obj):=match s with
  | .FunctionDef name args body _ _ _ scope _ _ pos=>
    let st (x:Str) (i:Nat):Value:= .str x i
    let q:=Str.ofString qual
    [(a,{ cls:= .type "function",data:= .func { name:=name,qualname:=q,params:=args,body:= .stmts body,scope:=scope,globals:=3,closure:= [],defaults:= .none,kwdefaults:= .none,pyModule:=md,code:= .ref (a-1) } }),
     (a-1,{ cls:= .type "code",data:= .fields ((([st name n,st q (n+1),st (Str.ofString "/claim/cut.py") (n+2),.int pos.line 0,.int args.args.length 0,.int 0 0,.int 0 0,.int 3 0]:List Value) ++
        (if m=n+3 then([.ref (a-4),.bool true,.int 181 0,.ref (a-3),.none,.none,.none]:List Value) else [.ref (a-6),.bool true,.int 181 0,.ref (a-5),.none,.ref (a-4),.ref (a-3)]) ++
        ([.ref (a-2),.int m 0,.int pos.line 0,st (Str.ofString "/claim/cut.py") (m+1)]:List Value)).toArray) })]
  | _=> []
noncomputable def CK (P:Params)(rs:List (String×Nat×Value)):Array DictEntry:=(rs.map fun r=>{ hash:=PyData.keyHash P (Str.ofString r.1),key:= .str (Str.ofString r.1) r.2.1,val:=r.2.2 }).toArray
noncomputable def MI (a d:Addr)(nm:String)(n m:Nat):Addr×Obj:=
  (a,{ cls:= .type "type",data:= .cls { name:=Str.ofString nm,bases:= [.type "object"],mro:= [.ref a,.type "object"],ns:=d,qualname:=Str.ofString nm },slots:= #[none,none,some (.str (Str.ofString nm) n),some (.str (Str.ofString nm) m),some (.builtin "object.__new__"),some (.bool true)] })
noncomputable def Ai (s:String)(n:Nat):Value:= .str (Str.ofString s) n
noncomputable def Xd:List (Addr×String×(Nat×Option Nat)×Nat×Nat×Value):= [
  (67, "is_op",(5,none),252,255,Ai "alikeheap.terms" 250),
  (72, "parts",(6,none),258,261,Ai "alikeheap.terms" 250),
  (86, "Bank.__init__",(7,some 0),276,280,Ai "alikeheap.terms" 250),
  (93, "Bank.size",(7,some 1),283,287,Ai "alikeheap.terms" 250),
  (98, "Bank.take",(7,some 2),290,293,Ai "alikeheap.terms" 250),
  (105, "Bank.require",(7,some 3),296,301,Ai "alikeheap.terms" 250),
  (112, "Bank.put",(7,some 4),304,311,Ai "alikeheap.terms" 250),
  (117, "Bank.put_all",(7,some 5),314,317,Ai "alikeheap.terms" 250),
  (124, "Bank.cut",(7,some 6),320,325,Ai "alikeheap.terms" 250),
  (131, "Bank.op",(7,some 7),328,333,Ai "alikeheap.terms" 250),
  (138, "Bank.kids",(7,some 8),336,341,Ai "alikeheap.terms" 250),
  (145, "Bank.node",(7,some 9),344,349,Ai "alikeheap.terms" 250),
  (150, "Bank.term",(7,some 10),352,355,Ai "alikeheap.terms" 250),
  (157, "Bank.weight",(7,some 11),358,363,Ai "alikeheap.terms" 250),
  (164, "Bank.depth",(7,some 12),366,371,Ai "alikeheap.terms" 250),
  (171, "Bank.seek",(7,some 13),374,380,Ai "alikeheap.terms" 250),
  (192, "Unions.__init__",(9,some 0),409,413,Ai "alikeheap.unions" 395),
  (199, "Unions.make",(9,some 1),416,420,Ai "alikeheap.unions" 395),
  (206, "Unions.size",(9,some 2),423,427,Ai "alikeheap.unions" 395),
  (213, "Unions.find",(9,some 3),430,435,Ai "alikeheap.unions" 395),
  (220, "Unions.merge",(9,some 4),438,446,Ai "alikeheap.unions" 395),
  (227, "Unions.members",(9,some 5),449,454,Ai "alikeheap.unions" 395),
  (232, "Unions.classes",(9,some 6),457,460,Ai "alikeheap.unions" 395),
  (239, "Unions.log",(9,some 7),463,467,Ai "alikeheap.unions" 395),
  (246, "Unions.back",(9,some 8),470,477,Ai "alikeheap.unions" 395),
  (253, "Unions.cut",(9,some 9),480,485,Ai "alikeheap.unions" 395),
  (274, "Heap.__init__",(11,some 0),513,517,Ai "alikeheap.heap" 499),
  (281, "Heap.size",(11,some 1),520,524,Ai "alikeheap.heap" 499),
  (286, "Heap.node",(11,some 2),527,530,Ai "alikeheap.heap" 499),
  (291, "Heap.add",(11,some 3),533,536,Ai "alikeheap.heap" 499),
  (296, "Heap.put",(11,some 4),539,542,Ai "alikeheap.heap" 499),
  (303, "Heap.look_at",(11,some 5),545,551,Ai "alikeheap.heap" 499),
  (310, "Heap.find",(11,some 6),554,559,Ai "alikeheap.heap" 499),
  (317, "Heap.are_like",(11,some 7),562,568,Ai "alikeheap.heap" 499),
  (324, "Heap.merge",(11,some 8),571,578,Ai "alikeheap.heap" 499),
  (331, "Heap.join",(11,some 9),581,591,Ai "alikeheap.heap" 499),
  (338, "Heap.settle",(11,some 10),594,598,Ai "alikeheap.heap" 499),
  (345, "Heap.is_settled",(11,some 11),601,605,Ai "alikeheap.heap" 499),
  (352, "Heap.classes",(11,some 12),608,612,Ai "alikeheap.heap" 499),
  (359, "Heap.members",(11,some 13),615,620,Ai "alikeheap.heap" 499),
  (366, "Heap.nodes_of",(11,some 14),623,628,Ai "alikeheap.heap" 499),
  (373, "Heap.many_nodes",(11,some 15),631,635,Ai "alikeheap.heap" 499),
  (378, "Heap.seek",(11,some 16),638,641,Ai "alikeheap.heap" 499),
  (385, "Heap.users",(11,some 17),644,649,Ai "alikeheap.heap" 499),
  (406, "Join.__init__",(13,some 0),682,688,Ai "alikeheap.grammars" 668),
  (411, "Join.taken",(13,some 1),691,694,Ai "alikeheap.grammars" 668),
  (418, "Join.class_of",(13,some 2),697,703,Ai "alikeheap.grammars" 668),
  (432, "_law_pick",(15,none),718,725,Ai "law_pq0004_01" 716),
  (437, "_law_tree",(16,none),728,731,Ai "law_pq0004_01" 716),
  (444, "_law_gather",(17,none),734,740,Ai "law_pq0004_01" 716),
  (449, "_law_side",(18,none),743,746,Ai "law_pq0004_01" 716),
  (454, "_law_closed",(19,none),749,752,Ai "law_pq0004_01" 716),
  (459, "_law_state",(20,none),755,758,Ai "law_pq0004_01" 716),
  (464, "_law_is_right",(21,none),761,764,Ai "law_pq0004_01" 716),
  (469, "law",(22,none),767,770,Ai "law_pq0004_01" 716)]
noncomputable def Bg (p:Nat×Option Nat):Stmt:=match p.2 with
  | none=>Qh p.1 P0.main.body
  | some j=>Qh j (Yi (Qh p.1 P0.main.body))
noncomputable def KK (P:Params):Frag:= [
  (3,{ cls:= .type "dict",data:= .dict (CK P [("__name__",165,Ai "law_pq0004_01" 716),("__doc__",166,.none),("__package__",167,.none),("__loader__",168,.builtin "__main__.__loader__#opaque"),("__spec__",169,.none),("__annotations__",170,.ref 6),("__builtins__",171,.ref 4),("__file__",173,Ai "/claim/cut.py" 172),("__cached__",174,.none),("_wall",193,.ref 21),("HeapError",233,.ref 47),("TermFault",249,.ref 60),("is_op",257,.ref 67),("parts",263,.ref 72),("Bank",394,.ref 174),("Unions",498,.ref 256),("Heap",667,.ref 388),("Join",715,.ref 421),("_law_pick",727,.ref 432),("_law_tree",733,.ref 437),("_law_gather",742,.ref 444),("_law_side",748,.ref 449),("_law_closed",754,.ref 454),("_law_state",760,.ref 459),("_law_is_right",766,.ref 464),("law",772,.ref 469)]) 26 }),
  MI 174 173 "Bank" 264 272,
  (173,{ cls:= .type "dict",data:= .dict (CK P [("__module__",271,Ai "alikeheap.terms" 250),("__firstlineno__",275,.int 23 274),("__init__",282,.ref 86),("size",289,.ref 93),("take",295,.ref 98),("require",303,.ref 105),("put",313,.ref 112),("put_all",319,.ref 117),("cut",327,.ref 124),("op",335,.ref 131),("kids",343,.ref 138),("node",351,.ref 145),("term",357,.ref 150),("weight",365,.ref 157),("depth",373,.ref 164),("seek",382,.ref 171),("__static_attributes__",387,.ref 172),("__dict__",389,.ref 175),("__weakref__",391,.ref 176),("__doc__",392,.none)]) 4 }),
  MI 256 255 "Unions" 397 405,
  (255,{ cls:= .type "dict",data:= .dict (CK P [("__module__",404,Ai "alikeheap.unions" 395),("__firstlineno__",408,.int 93 407),("__init__",415,.ref 192),("make",422,.ref 199),("size",429,.ref 206),("find",437,.ref 213),("merge",448,.ref 220),("members",456,.ref 227),("classes",462,.ref 232),("log",469,.ref 239),("back",479,.ref 246),("cut",487,.ref 253),("__static_attributes__",491,.ref 254),("__dict__",493,.ref 257),("__weakref__",495,.ref 258),("__doc__",496,.none)]) 4 }),
  MI 388 387 "Heap" 501 509,
  (387,{ cls:= .type "dict",data:= .dict (CK P [("__module__",508,Ai "alikeheap.heap" 499),("__firstlineno__",512,.int 140 511),("__init__",519,.ref 274),("size",526,.ref 281),("node",532,.ref 286),("add",538,.ref 291),("put",544,.ref 296),("look_at",553,.ref 303),("find",561,.ref 310),("are_like",570,.ref 317),("merge",580,.ref 324),("join",593,.ref 331),("settle",600,.ref 338),("is_settled",607,.ref 345),("classes",614,.ref 352),("members",622,.ref 359),("nodes_of",630,.ref 366),("many_nodes",637,.ref 373),("seek",643,.ref 378),("users",651,.ref 385),("__static_attributes__",660,.ref 386),("__dict__",662,.ref 389),("__weakref__",664,.ref 390),("__doc__",665,.none)]) 4 }),
  MI 421 420 "Join" 670 678,
  (420,{ cls:= .type "dict",data:= .dict (CK P [("__module__",677,Ai "alikeheap.grammars" 668),("__firstlineno__",681,.int 223 680),("__init__",690,.ref 406),("taken",696,.ref 411),("class_of",705,.ref 418),("__static_attributes__",708,.ref 419),("__dict__",710,.ref 422),("__weakref__",712,.ref 423),("__doc__",713,.none)]) 4 })]++Xd.flatMap fun r=>SU r.1 r.2.1 (Bg r.2.2.1) r.2.2.2.1 r.2.2.2.2.1 r.2.2.2.2.2
noncomputable def Vj:List Addr:= [3,174,173,256,255,388,387,421,420,67,66,72,71,86,85,93,92,98,97,105,104,112,111,117,116,124,123,131,130,138,137,145,144,150,149,157,156,164,163,171,170,192,191,199,198,206,205,213,212,220,219,227,226,232,231,239,238,246,245,253,252,274,273,281,280,286,285,291,290,296,295,303,302,310,309,317,316,324,323,331,330,338,337,345,344,352,351,359,358,366,365,373,372,378,377,385,384,406,405,411,410,418,417,432,431,437,436,444,443,449,448,454,453,459,458,464,463,469,468]
noncomputable def tup (l:List Value):Obj:={ cls:= .type "tuple",data:= .seq l.toArray }
noncomputable def Wb (qual:String)(s:Stmt):FuncData:=match s with
  | .FunctionDef name args body _ _ _ scope _ _ _=>{ name:=name,qualname:=Str.ofString qual,params:=args,body:= .stmts body,scope:=scope,globals:=0,closure:= [],defaults:= .none,kwdefaults:= .none }
  | _=>default
noncomputable def LW (n:Nat):List String→List Value
  | []=> []
  | x::r=>Ai x n::LW (n+1) r
noncomputable def grp (a:Addr)(qual:String)(s:Stmt)(n:Nat)(ns:List String)(md:Value):List Obj:=
  let k:=if ns.isEmpty then a+4 else a+6
  ([tup [],{ cls:= .none,data:= .fields #[] }]++(if ns.isEmpty then [] else [tup (LW (n+3) ns),tup []]))++([{ cls:= .none,data:= .func (Wb qual s) }]++((SU k qual s n (n+3+ns.length) md).map (·.2)).reverse)
noncomputable def XV:List Obj:=
  let s:=(Bg (2,some 0))
  [tup [Ai "__class__" 211],{ cls:= .none,data:= .fields #[] },tup (LW 212 ["self", "what"]),tup [],{ cls:= .none,data:= .func (Wb "HeapError.__init__" s) }] ++
  ((SU 37 "HeapError.__init__" s 208 214 (Ai "alikeheap.errors" 194)).map fun e=>match e.2 with
    | { cls:=c,data:= .func d,slots:=z,dict:=y }=>{ cls:=c,dict:=y,data:= .func { d with closure:= [(Str.ofString "__class__",25)],closureTuple:= .ref 30 },slots:=z }
    | o=>o).reverse
noncomputable def J5 (P:Params):List Obj:=
  grp 15 "_wall" (Bg (0,none)) 187 ["k"] (Ai "__main__" 164)++(
  [{ cls:= .type "tuple",data:= .seq #[.type "Exception"] },
   { cls:= .type "builtin_function_or_method",data:= .fields #[.builtin "type.__prepare__",.type "type"] },
   { cls:= .type "dict",data:= .dict (CK P [("__module__",203,Ai "alikeheap.errors" 194),("__qualname__",205,Ai "HeapError" 204),("__firstlineno__",207,.int 5 206),("__init__",216,.ref 37),("told",223,.ref 44),("__static_attributes__",225,.ref 45),("__classcell__",226,.ref 25)]) 7 },
   { cls:= .type "cell",data:= .cell (some (.ref 47)) },
   { cls:= .type "tuple",data:= .seq #[] },
   { cls:= .none,data:= .fields #[.int 7 0,.int 4 0,.ref 36,.int 11 0,.int 4 0,.ref 43] },
   { cls:= .type "code",data:= .fields #[Ai "HeapError" 198,Ai "HeapError" 199,Ai "/claim/cut.py" 200,.int 5 0,.int 0 0,.int 0 0,.int 0 0,.int 0 0,.ref 26,.bool false,.int 181 0,.ref 27,.none,.none,.none,.none,.int 201 0,.int 5 0,Ai "/claim/cut.py" 202] },
   { cls:= .type "frame",slots:= #[some (.ref 28),some (.ref 3),some (.ref 24),none,some (Ai "alikeheap.errors" 194),none,some (.ref 0)] },
   { cls:= .type "tuple",data:= .seq #[.ref 25] }]++(
  XV++(
  grp 38 "HeapError.told" (Bg (2,some 1)) 217 ["self"] (Ai "alikeheap.errors" 194)++(
  [{ cls:= .type "tuple",data:= .seq #[Ai "what" 224] },
   { cls:= .type "dict",data:= .dict (CK P [("__module__",203,Ai "alikeheap.errors" 194),("__firstlineno__",207,.int 5 206),("__init__",216,.ref 37),("told",223,.ref 44),("__static_attributes__",225,.ref 45),("__weakref__",228,.ref 48),("__doc__",229,.none)]) 4 },
   { cls:= .type "type",data:= .cls { name:=Str.ofString "HeapError",bases:= [.type "Exception"],mro:= [.ref 47,.type "Exception",.type "BaseException",.type "object"],ns:=46,qualname:=Str.ofString "HeapError",subclasses:= [.ref 60] },slots:= #[some (.ref 22),none,some (Ai "HeapError" 196),some (Ai "HeapError" 204),some (.builtin "Exception.__new__"),some (.bool true)] },
   { cls:= .type "getset_descriptor",data:= .fields #[Ai "__weakref__" 227,.ref 47,.builtin "ExceptionGroup.__weakref__",.none] },
   { cls:= .type "super",data:= .fields #[.ref 47,.ref 47,.ref 47] },
   { cls:= .type "builtin_function_or_method",data:= .fields #[.builtin "object.__init_subclass__",.ref 47] }]))))
noncomputable def IP (P:Params):List Obj:=
  [{ cls:= .type "tuple",data:= .seq #[.ref 47] },
   { cls:= .type "builtin_function_or_method",data:= .fields #[.builtin "type.__prepare__",.type "type"] },
   { cls:= .type "dict",data:= .dict (CK P [("__module__",241,Ai "alikeheap.errors" 194),("__qualname__",243,Ai "TermFault" 242),("__firstlineno__",245,.int 13 244),("__static_attributes__",246,.ref 58)]) 4 },
   { cls:= .type "tuple",data:= .seq #[] },
   { cls:= .none,data:= .fields #[] },
   { cls:= .type "code",data:= .fields #[Ai "TermFault" 236,Ai "TermFault" 237,Ai "/claim/cut.py" 238,.int 13 0,.int 0 0,.int 0 0,.int 0 0,.int 0 0,.ref 54,.bool false,.int 181 0,.ref 55,.none,.none,.none,.none,.int 239 0,.int 13 0,Ai "/claim/cut.py" 240] },
   { cls:= .type "frame",slots:= #[some (.ref 56),some (.ref 3),some (.ref 53),none,some (Ai "alikeheap.errors" 194),none,some (.ref 0)] },
   { cls:= .type "tuple",data:= .seq #[] },
   { cls:= .type "dict",data:= .dict (CK P [("__module__",241,Ai "alikeheap.errors" 194),("__firstlineno__",245,.int 13 244),("__static_attributes__",246,.ref 58),("__doc__",247,.none)]) 2 },
   { cls:= .type "type",data:= .cls { name:=Str.ofString "TermFault",bases:= [.ref 47],mro:= [.ref 60,.ref 47,.type "Exception",.type "BaseException",.type "object"],ns:=59,qualname:=Str.ofString "TermFault" },slots:= #[some (.ref 51),none,some (Ai "TermFault" 234),some (Ai "TermFault" 242),some (.builtin "Exception.__new__"),some (.bool true)] },
   { cls:= .type "super",data:= .fields #[.ref 60,.ref 60,.ref 60] },
   { cls:= .type "builtin_function_or_method",data:= .fields #[.builtin "object.__init_subclass__",.ref 60] }]++(
  grp 63 "is_op" (Bg (5,none)) 252 [] (Ai "alikeheap.terms" 250)++(
  grp 68 "parts" (Bg (6,none)) 258 [] (Ai "alikeheap.terms" 250)++(
  [{ cls:= .type "tuple",data:= .seq #[] },
   { cls:= .type "builtin_function_or_method",data:= .fields #[.builtin "type.__prepare__",.type "type"] },
   { cls:= .type "dict",data:= .dict (CK P [("__module__",271,Ai "alikeheap.terms" 250),("__qualname__",273,Ai "Bank" 272),("__firstlineno__",275,.int 23 274),("__init__",282,.ref 86),("size",289,.ref 93),("take",295,.ref 98),("require",303,.ref 105),("put",313,.ref 112),("put_all",319,.ref 117),("cut",327,.ref 124),("op",335,.ref 131),("kids",343,.ref 138),("node",351,.ref 145),("term",357,.ref 150),("weight",365,.ref 157),("depth",373,.ref 164),("seek",382,.ref 171),("__static_attributes__",387,.ref 172)]) 18 },
   { cls:= .type "tuple",data:= .seq #[] },
   { cls:= .none,data:= .fields #[.int 25 0,.int 4 0,.ref 85,.int 31 0,.int 4 0,.ref 92,.int 34 0,.int 4 0,.ref 97,.int 48 0,.int 4 0,.ref 104,.int 52 0,.int 4 0,.ref 111,.int 57 0,.int 4 0,.ref 116,.int 60 0,.int 4 0,.ref 123,.int 63 0,.int 4 0,.ref 130,.int 66 0,.int 4 0,.ref 137,.int 69 0,.int 4 0,.ref 144,.int 72 0,.int 4 0,.ref 149,.int 84 0,.int 4 0,.ref 156,.int 87 0,.int 4 0,.ref 163,.int 90 0,.int 4 0,.ref 170] },
   { cls:= .type "code",data:= .fields #[Ai "Bank" 266,Ai "Bank" 267,Ai "/claim/cut.py" 268,.int 23 0,.int 0 0,.int 0 0,.int 0 0,.int 0 0,.ref 76,.bool false,.int 181 0,.ref 77,.none,.none,.none,.none,.int 269 0,.int 23 0,Ai "/claim/cut.py" 270] },
   { cls:= .type "frame",slots:= #[some (.ref 78),some (.ref 3),some (.ref 75),none,some (Ai "alikeheap.terms" 250),none,some (.ref 0)] }]++(
  grp 80 "Bank.__init__" (Bg (7,some 0)) 276 ["self"] (Ai "alikeheap.terms" 250)++(
  grp 87 "Bank.size" (Bg (7,some 1)) 283 ["self"] (Ai "alikeheap.terms" 250)++(
  grp 94 "Bank.take" (Bg (7,some 2)) 290 [] (Ai "alikeheap.terms" 250)++(
  grp 99 "Bank.require" (Bg (7,some 3)) 296 ["self", "op"] (Ai "alikeheap.terms" 250)++(
  grp 106 "Bank.put" (Bg (7,some 4)) 304 ["self", "t", "path", "part"] (Ai "alikeheap.terms" 250)++(
  grp 113 "Bank.put_all" (Bg (7,some 5)) 314 [] (Ai "alikeheap.terms" 250)++(
  grp 118 "Bank.cut" (Bg (7,some 6)) 320 ["self", "many"] (Ai "alikeheap.terms" 250)++(
  grp 125 "Bank.op" (Bg (7,some 7)) 328 ["self", "n"] (Ai "alikeheap.terms" 250)++(
  grp 132 "Bank.kids" (Bg (7,some 8)) 336 ["self", "n"] (Ai "alikeheap.terms" 250)++(
  grp 139 "Bank.node" (Bg (7,some 9)) 344 ["self", "n"] (Ai "alikeheap.terms" 250)++(
  grp 146 "Bank.term" (Bg (7,some 10)) 352 [] (Ai "alikeheap.terms" 250)++(
  grp 151 "Bank.weight" (Bg (7,some 11)) 358 ["self", "n"] (Ai "alikeheap.terms" 250)++(
  grp 158 "Bank.depth" (Bg (7,some 12)) 366 ["self", "n"] (Ai "alikeheap.terms" 250)++(
  grp 165 "Bank.seek" (Bg (7,some 13)) 374 ["self", "op", "kids"] (Ai "alikeheap.terms" 250)++(
  [{ cls:= .type "tuple",data:= .seq #[Ai "depths" 383,Ai "nodes" 384,Ai "numbers" 385,Ai "weights" 386] },
   { cls:= .type "dict",data:= .dict (CK P [("__module__",271,Ai "alikeheap.terms" 250),("__firstlineno__",275,.int 23 274),("__init__",282,.ref 86),("size",289,.ref 93),("take",295,.ref 98),("require",303,.ref 105),("put",313,.ref 112),("put_all",319,.ref 117),("cut",327,.ref 124),("op",335,.ref 131),("kids",343,.ref 138),("node",351,.ref 145),("term",357,.ref 150),("weight",365,.ref 157),("depth",373,.ref 164),("seek",382,.ref 171),("__static_attributes__",387,.ref 172),("__dict__",389,.ref 175),("__weakref__",391,.ref 176),("__doc__",392,.none)]) 4 },
   { cls:= .type "type",data:= .cls { name:=Str.ofString "Bank",bases:= [.type "object"],mro:= [.ref 174,.type "object"],ns:=173,qualname:=Str.ofString "Bank" },slots:= #[none,none,some (Ai "Bank" 264),some (Ai "Bank" 272),some (.builtin "object.__new__"),some (.bool true)] },
   { cls:= .type "getset_descriptor",data:= .fields #[Ai "__dict__" 388,.ref 174,.builtin "function.__dict__",.builtin "function.__dict__#set"] },
   { cls:= .type "getset_descriptor",data:= .fields #[Ai "__weakref__" 390,.ref 174,.builtin "ExceptionGroup.__weakref__",.none] },
   { cls:= .type "super",data:= .fields #[.ref 174,.ref 174,.ref 174] },
   { cls:= .type "builtin_function_or_method",data:= .fields #[.builtin "object.__init_subclass__",.ref 174] }]))))))))))))))))))
noncomputable def K0 (P:Params):List Obj:=
  [{ cls:= .type "tuple",data:= .seq #[] },
   { cls:= .type "builtin_function_or_method",data:= .fields #[.builtin "type.__prepare__",.type "type"] },
   { cls:= .type "dict",data:= .dict (CK P [("__module__",404,Ai "alikeheap.unions" 395),("__qualname__",406,Ai "Unions" 405),("__firstlineno__",408,.int 93 407),("__init__",415,.ref 192),("make",422,.ref 199),("size",429,.ref 206),("find",437,.ref 213),("merge",448,.ref 220),("members",456,.ref 227),("classes",462,.ref 232),("log",469,.ref 239),("back",479,.ref 246),("cut",487,.ref 253),("__static_attributes__",491,.ref 254)]) 14 },
   { cls:= .type "tuple",data:= .seq #[] },
   { cls:= .none,data:= .fields #[.int 95 0,.int 4 0,.ref 191,.int 100 0,.int 4 0,.ref 198,.int 105 0,.int 4 0,.ref 205,.int 108 0,.int 4 0,.ref 212,.int 113 0,.int 4 0,.ref 219,.int 122 0,.int 4 0,.ref 226,.int 125 0,.int 4 0,.ref 231,.int 128 0,.int 4 0,.ref 238,.int 131 0,.int 4 0,.ref 245,.int 137 0,.int 4 0,.ref 252] },
   { cls:= .type "code",data:= .fields #[Ai "Unions" 399,Ai "Unions" 400,Ai "/claim/cut.py" 401,.int 93 0,.int 0 0,.int 0 0,.int 0 0,.int 0 0,.ref 182,.bool false,.int 181 0,.ref 183,.none,.none,.none,.none,.int 402 0,.int 93 0,Ai "/claim/cut.py" 403] },
   { cls:= .type "frame",slots:= #[some (.ref 184),some (.ref 3),some (.ref 181),none,some (Ai "alikeheap.unions" 395),none,some (.ref 0)] }]++(
  grp 186 "Unions.__init__" (Bg (9,some 0)) 409 ["self"] (Ai "alikeheap.unions" 395)++(
  grp 193 "Unions.make" (Bg (9,some 1)) 416 ["self"] (Ai "alikeheap.unions" 395)++(
  grp 200 "Unions.size" (Bg (9,some 2)) 423 ["self"] (Ai "alikeheap.unions" 395)++(
  grp 207 "Unions.find" (Bg (9,some 3)) 430 ["self", "a"] (Ai "alikeheap.unions" 395)++(
  grp 214 "Unions.merge" (Bg (9,some 4)) 438 ["self", "a", "b", "kept", "gone"] (Ai "alikeheap.unions" 395)++(
  grp 221 "Unions.members" (Bg (9,some 5)) 449 ["self", "a"] (Ai "alikeheap.unions" 395)++(
  grp 228 "Unions.classes" (Bg (9,some 6)) 457 [] (Ai "alikeheap.unions" 395)++(
  grp 233 "Unions.log" (Bg (9,some 7)) 463 ["self"] (Ai "alikeheap.unions" 395)++(
  grp 240 "Unions.back" (Bg (9,some 8)) 470 ["self", "many", "kept", "gone"] (Ai "alikeheap.unions" 395)++(
  grp 247 "Unions.cut" (Bg (9,some 9)) 480 ["self", "many"] (Ai "alikeheap.unions" 395)++(
  [{ cls:= .type "tuple",data:= .seq #[Ai "above" 488,Ai "lots" 489,Ai "merged" 490] },
   { cls:= .type "dict",data:= .dict (CK P [("__module__",404,Ai "alikeheap.unions" 395),("__firstlineno__",408,.int 93 407),("__init__",415,.ref 192),("make",422,.ref 199),("size",429,.ref 206),("find",437,.ref 213),("merge",448,.ref 220),("members",456,.ref 227),("classes",462,.ref 232),("log",469,.ref 239),("back",479,.ref 246),("cut",487,.ref 253),("__static_attributes__",491,.ref 254),("__dict__",493,.ref 257),("__weakref__",495,.ref 258),("__doc__",496,.none)]) 4 },
   { cls:= .type "type",data:= .cls { name:=Str.ofString "Unions",bases:= [.type "object"],mro:= [.ref 256,.type "object"],ns:=255,qualname:=Str.ofString "Unions" },slots:= #[none,none,some (Ai "Unions" 397),some (Ai "Unions" 405),some (.builtin "object.__new__"),some (.bool true)] },
   { cls:= .type "getset_descriptor",data:= .fields #[Ai "__dict__" 492,.ref 256,.builtin "function.__dict__",.builtin "function.__dict__#set"] },
   { cls:= .type "getset_descriptor",data:= .fields #[Ai "__weakref__" 494,.ref 256,.builtin "ExceptionGroup.__weakref__",.none] },
   { cls:= .type "super",data:= .fields #[.ref 256,.ref 256,.ref 256] },
   { cls:= .type "builtin_function_or_method",data:= .fields #[.builtin "object.__init_subclass__",.ref 256] }])))))))))))
noncomputable def NU (P:Params):List Obj:=
  [{ cls:= .type "tuple",data:= .seq #[] },
   { cls:= .type "builtin_function_or_method",data:= .fields #[.builtin "type.__prepare__",.type "type"] },
   { cls:= .type "dict",data:= .dict (CK P [("__module__",508,Ai "alikeheap.heap" 499),("__qualname__",510,Ai "Heap" 509),("__firstlineno__",512,.int 140 511),("__init__",519,.ref 274),("size",526,.ref 281),("node",532,.ref 286),("add",538,.ref 291),("put",544,.ref 296),("look_at",553,.ref 303),("find",561,.ref 310),("are_like",570,.ref 317),("merge",580,.ref 324),("join",593,.ref 331),("settle",600,.ref 338),("is_settled",607,.ref 345),("classes",614,.ref 352),("members",622,.ref 359),("nodes_of",630,.ref 366),("many_nodes",637,.ref 373),("seek",643,.ref 378),("users",651,.ref 385),("__static_attributes__",660,.ref 386)]) 22 },
   { cls:= .type "tuple",data:= .seq #[] },
   { cls:= .none,data:= .fields #[.int 142 0,.int 4 0,.ref 273,.int 152 0,.int 4 0,.ref 280,.int 155 0,.int 4 0,.ref 285,.int 158 0,.int 4 0,.ref 290,.int 169 0,.int 4 0,.ref 295,.int 172 0,.int 4 0,.ref 302,.int 177 0,.int 4 0,.ref 309,.int 180 0,.int 4 0,.ref 316,.int 183 0,.int 4 0,.ref 323,.int 186 0,.int 4 0,.ref 330,.int 197 0,.int 4 0,.ref 337,.int 201 0,.int 4 0,.ref 344,.int 204 0,.int 4 0,.ref 351,.int 207 0,.int 4 0,.ref 358,.int 210 0,.int 4 0,.ref 365,.int 213 0,.int 4 0,.ref 372,.int 216 0,.int 4 0,.ref 377,.int 220 0,.int 4 0,.ref 384] },
   { cls:= .type "code",data:= .fields #[Ai "Heap" 503,Ai "Heap" 504,Ai "/claim/cut.py" 505,.int 140 0,.int 0 0,.int 0 0,.int 0 0,.int 0 0,.ref 264,.bool false,.int 181 0,.ref 265,.none,.none,.none,.none,.int 506 0,.int 140 0,Ai "/claim/cut.py" 507] },
   { cls:= .type "frame",slots:= #[some (.ref 266),some (.ref 3),some (.ref 263),none,some (Ai "alikeheap.heap" 499),none,some (.ref 0)] }]++(
  grp 268 "Heap.__init__" (Bg (11,some 0)) 513 ["self"] (Ai "alikeheap.heap" 499)++(
  grp 275 "Heap.size" (Bg (11,some 1)) 520 ["self"] (Ai "alikeheap.heap" 499)++(
  grp 282 "Heap.node" (Bg (11,some 2)) 527 [] (Ai "alikeheap.heap" 499)++(
  grp 287 "Heap.add" (Bg (11,some 3)) 533 [] (Ai "alikeheap.heap" 499)++(
  grp 292 "Heap.put" (Bg (11,some 4)) 539 [] (Ai "alikeheap.heap" 499)++(
  grp 297 "Heap.look_at" (Bg (11,some 5)) 545 ["self", "n", "other"] (Ai "alikeheap.heap" 499)++(
  grp 304 "Heap.find" (Bg (11,some 6)) 554 ["self", "n"] (Ai "alikeheap.heap" 499)++(
  grp 311 "Heap.are_like" (Bg (11,some 7)) 562 ["self", "a", "b"] (Ai "alikeheap.heap" 499)++(
  grp 318 "Heap.merge" (Bg (11,some 8)) 571 ["self", "a", "b", "reason"] (Ai "alikeheap.heap" 499)++(
  grp 325 "Heap.join" (Bg (11,some 9)) 581 ["self", "a", "b", "reason", "merged", "kept", "gone"] (Ai "alikeheap.heap" 499)++(
  grp 332 "Heap.settle" (Bg (11,some 10)) 594 ["self"] (Ai "alikeheap.heap" 499)++(
  grp 339 "Heap.is_settled" (Bg (11,some 11)) 601 ["self"] (Ai "alikeheap.heap" 499)++(
  grp 346 "Heap.classes" (Bg (11,some 12)) 608 ["self"] (Ai "alikeheap.heap" 499)++(
  grp 353 "Heap.members" (Bg (11,some 13)) 615 ["self", "c"] (Ai "alikeheap.heap" 499)++(
  grp 360 "Heap.nodes_of" (Bg (11,some 14)) 623 ["self", "c"] (Ai "alikeheap.heap" 499)++(
  grp 367 "Heap.many_nodes" (Bg (11,some 15)) 631 ["self"] (Ai "alikeheap.heap" 499)++(
  grp 374 "Heap.seek" (Bg (11,some 16)) 638 [] (Ai "alikeheap.heap" 499)++(
  grp 379 "Heap.users" (Bg (11,some 17)) 644 ["self", "c"] (Ai "alikeheap.heap" 499)++(
  [{ cls:= .type "tuple",data:= .seq #[Ai "above" 652,Ai "backs" 653,Ai "bank" 654,Ai "edges" 655,Ai "forest" 656,Ai "known" 657,Ai "unions" 658,Ai "waiting" 659] },
   { cls:= .type "dict",data:= .dict (CK P [("__module__",508,Ai "alikeheap.heap" 499),("__firstlineno__",512,.int 140 511),("__init__",519,.ref 274),("size",526,.ref 281),("node",532,.ref 286),("add",538,.ref 291),("put",544,.ref 296),("look_at",553,.ref 303),("find",561,.ref 310),("are_like",570,.ref 317),("merge",580,.ref 324),("join",593,.ref 331),("settle",600,.ref 338),("is_settled",607,.ref 345),("classes",614,.ref 352),("members",622,.ref 359),("nodes_of",630,.ref 366),("many_nodes",637,.ref 373),("seek",643,.ref 378),("users",651,.ref 385),("__static_attributes__",660,.ref 386),("__dict__",662,.ref 389),("__weakref__",664,.ref 390),("__doc__",665,.none)]) 4 },
   { cls:= .type "type",data:= .cls { name:=Str.ofString "Heap",bases:= [.type "object"],mro:= [.ref 388,.type "object"],ns:=387,qualname:=Str.ofString "Heap" },slots:= #[none,none,some (Ai "Heap" 501),some (Ai "Heap" 509),some (.builtin "object.__new__"),some (.bool true)] },
   { cls:= .type "getset_descriptor",data:= .fields #[Ai "__dict__" 661,.ref 388,.builtin "function.__dict__",.builtin "function.__dict__#set"] },
   { cls:= .type "getset_descriptor",data:= .fields #[Ai "__weakref__" 663,.ref 388,.builtin "ExceptionGroup.__weakref__",.none] },
   { cls:= .type "super",data:= .fields #[.ref 388,.ref 388,.ref 388] },
   { cls:= .type "builtin_function_or_method",data:= .fields #[.builtin "object.__init_subclass__",.ref 388] }])))))))))))))))))))
noncomputable def Sf (P:Params):List Obj:=
  [{ cls:= .type "tuple",data:= .seq #[] },
   { cls:= .type "builtin_function_or_method",data:= .fields #[.builtin "type.__prepare__",.type "type"] },
   { cls:= .type "dict",data:= .dict (CK P [("__module__",677,Ai "alikeheap.grammars" 668),("__qualname__",679,Ai "Join" 678),("__firstlineno__",681,.int 223 680),("__init__",690,.ref 406),("taken",696,.ref 411),("class_of",705,.ref 418),("__static_attributes__",708,.ref 419)]) 7 },
   { cls:= .type "tuple",data:= .seq #[] },
   { cls:= .none,data:= .fields #[.int 225 0,.int 4 0,.ref 405,.int 230 0,.int 4 0,.ref 410,.int 238 0,.int 4 0,.ref 417] },
   { cls:= .type "code",data:= .fields #[Ai "Join" 672,Ai "Join" 673,Ai "/claim/cut.py" 674,.int 223 0,.int 0 0,.int 0 0,.int 0 0,.int 0 0,.ref 396,.bool false,.int 181 0,.ref 397,.none,.none,.none,.none,.int 675 0,.int 223 0,Ai "/claim/cut.py" 676] },
   { cls:= .type "frame",slots:= #[some (.ref 398),some (.ref 3),some (.ref 395),none,some (Ai "alikeheap.grammars" 668),none,some (.ref 0)] }]++(
  grp 400 "Join.__init__" (Bg (13,some 0)) 682 ["self", "one", "other"] (Ai "alikeheap.grammars" 668)++(
  grp 407 "Join.taken" (Bg (13,some 1)) 691 [] (Ai "alikeheap.grammars" 668)++(
  grp 412 "Join.class_of" (Bg (13,some 2)) 697 ["self", "side", "n"] (Ai "alikeheap.grammars" 668)++(
  [{ cls:= .type "tuple",data:= .seq #[Ai "heap" 706,Ai "places" 707] },
   { cls:= .type "dict",data:= .dict (CK P [("__module__",677,Ai "alikeheap.grammars" 668),("__firstlineno__",681,.int 223 680),("__init__",690,.ref 406),("taken",696,.ref 411),("class_of",705,.ref 418),("__static_attributes__",708,.ref 419),("__dict__",710,.ref 422),("__weakref__",712,.ref 423),("__doc__",713,.none)]) 4 },
   { cls:= .type "type",data:= .cls { name:=Str.ofString "Join",bases:= [.type "object"],mro:= [.ref 421,.type "object"],ns:=420,qualname:=Str.ofString "Join" },slots:= #[none,none,some (Ai "Join" 670),some (Ai "Join" 678),some (.builtin "object.__new__"),some (.bool true)] },
   { cls:= .type "getset_descriptor",data:= .fields #[Ai "__dict__" 709,.ref 421,.builtin "function.__dict__",.builtin "function.__dict__#set"] },
   { cls:= .type "getset_descriptor",data:= .fields #[Ai "__weakref__" 711,.ref 421,.builtin "ExceptionGroup.__weakref__",.none] },
   { cls:= .type "super",data:= .fields #[.ref 421,.ref 421,.ref 421] },
   { cls:= .type "builtin_function_or_method",data:= .fields #[.builtin "object.__init_subclass__",.ref 421] }]++(
  grp 426 "_law_pick" (Bg (15,none)) 718 ["tape", "many", "cells", "spot"] (Ai "law_pq0004_01" 716)++(
  grp 433 "_law_tree" (Bg (16,none)) 728 [] (Ai "law_pq0004_01" 716)++(
  grp 438 "_law_gather" (Bg (17,none)) 734 ["tree", "found", "kid"] (Ai "law_pq0004_01" 716)++(
  grp 445 "_law_side" (Bg (18,none)) 743 [] (Ai "law_pq0004_01" 716)++(
  grp 450 "_law_closed" (Bg (19,none)) 749 [] (Ai "law_pq0004_01" 716)++(
  grp 455 "_law_state" (Bg (20,none)) 755 [] (Ai "law_pq0004_01" 716)++(
  grp 460 "_law_is_right" (Bg (21,none)) 761 [] (Ai "law_pq0004_01" 716)++(
  grp 465 "law" (Bg (22,none)) 767 [] (Ai "law_pq0004_01" 716)))))))))))))
noncomputable def Vk:List (String×Nat×Value):= [("__doc__",166,.none),("__package__",167,.none),("__loader__",168,.builtin "__main__.__loader__#opaque"),("__spec__",169,.none),("__annotations__",170,.ref 6),("__builtins__",171,.ref 4),("__file__",173,Ai "/claim/cut.py" 172),("__cached__",174,.none),("_wall",193,.ref 21),("HeapError",233,.ref 47),("TermFault",249,.ref 60),("is_op",257,.ref 67),("parts",263,.ref 72),("Bank",394,.ref 174),("Unions",498,.ref 256),("Heap",667,.ref 388),("Join",715,.ref 421),("_law_pick",727,.ref 432),("_law_tree",733,.ref 437),("_law_gather",742,.ref 444),("_law_side",748,.ref 449),("_law_closed",754,.ref 454),("_law_state",760,.ref 459),("_law_is_right",766,.ref 464),("law",772,.ref 469)]
noncomputable def Vl:List (Nat×Nat):= [(1,20),(5,28),(13,56),(16,66),(18,71),(23,78),(93,184),(140,266),(223,398),(241,431),(245,436),(250,443),(255,448),(267,453),(279,458),(281,463),(293,468)]
noncomputable def IQ (P:Params):Obj:={ cls:= .none,data:= .dict (CK P [("type.__subclasses__.Exception.0",230,.int 47 0),("type.__subclasses__.Exception.n",231,.int 1 0)]) 2 }
noncomputable def CF:List Obj→Nat→BT→BT
  | [],_,t=>t
  | o::r,n,t=>CF r (n+1) (t.ins n o)
noncomputable def low (P:Params)(md:Value)(j t c:Nat)(st:Obj):List Obj:=
  [boot_o_0 P,boot_o_1 P,st,{ cls:= .type "dict",data:= .dict (CK P (("__name__",165,md)::Vk.take j)) t },boot_o_4 P,boot_o_5 P,boot_o_6 P,boot_o_7 P,boot_o_8 P,boot_o_9 P,boot_o_10 P,tup [],
   { cls:= .none,data:= .fields ((Vl.take c).flatMap fun x=>([.int x.1 0,.int 0 0,.ref x.2]:List Value)).toArray },
   { cls:= .type "code",data:= .fields #[Ai "<module>" 182,Ai "<module>" 183,Ai "/claim/cut.py" 184,.int 1 0,.int 0 0,.int 0 0,.int 0 0,.int 0 0,.ref 11,.bool false,.int 181 0,.ref 12,.none,.none,.none,.none,.int 185 0,.int 1 0,Ai "/claim/cut.py" 186] },
   { cls:= .type "frame",slots:= #[some (.ref 13),some (.ref 3),some (.ref 3),none,some (Ai "__main__" 164),none,some (.ref 0)] }]
noncomputable def Sg (P:Params):BT:=CF (IP P) 51 (CF (J5 P) 15 (CF (low P (Ai "alikeheap.terms" 250) 14 15 6 (IQ P)) 0 .nil))
noncomputable def Sh (P:Params):BT:=CF (K0 P) 179 (CF (IP P) 51 (CF (J5 P) 15 (CF (low P (Ai "alikeheap.unions" 395) 15 16 7 (IQ P)) 0 .nil)))
noncomputable def Si (P:Params):BT:=CF (NU P) 261 (CF (K0 P) 179 (CF (IP P) 51 (CF (J5 P) 15 (CF (low P (Ai "alikeheap.heap" 499) 16 17 8 (IQ P)) 0 .nil))))
noncomputable def Sj (P:Params):BT:=CF (Sf P) 393 (CF (NU P) 261 (CF (K0 P) 179 (CF (IP P) 51 (CF (J5 P) 15 (CF (low P (Ai "law_pq0004_01" 716) 25 26 17 (IQ P)) 0 .nil)))))
noncomputable def Xe (P:Params):List Obj:= [boot_o_0 P,boot_o_1 P,boot_o_2 P,boot_o_3 P,boot_o_4 P,boot_o_5 P,boot_o_6 P,boot_o_7 P,boot_o_8 P,boot_o_9 P,boot_o_10 P,tup [],{ cls:= .none,data:= .fields #[] }]++(low P .none 0 0 0 (boot_o_2 P)).drop 13
noncomputable def Uc (P:Params):BT:=CF (Xe P) 0 .nil
noncomputable def Ud (P:Params):Heap:={ objs:=(Xe P).toArray }
noncomputable def FQ (P:Params):Heap:={ objs:=(low P (Ai "law_pq0004_01" 716) 25 26 17 (IQ P)++(J5 P++(IP P++(K0 P++(NU P++Sf P))))).toArray }
noncomputable def MJ:List Stmt:=behindTheImports P0
noncomputable def NV:Env:={ scope:=P0.main.scope,locals:=mainNs,globals:=mainNs,cells:= [],code:= .ref 13,frame:=some 14 }
noncomputable def E8:Code:= .body MJ NV
noncomputable def Gq:Pos:={ line:=0,col:=0,endLine:=0,endCol:=0 }
noncomputable def Yj:Stmt→Pos
  | .ClassDef _ _ _ _ _ _ _ _ _ _ p=>p
  | .FunctionDef _ _ _ _ _ _ _ _ _ p=>p
  | _=>Gq
noncomputable def Ic (n:Nat):Pos:=Yj (Qh n MJ)
noncomputable def J6 (a b:Nat):List Stmt:=(MJ.drop a).take (b-a)
noncomputable def shT (t:BT)(n k:Nat)(os:OsState):SharedT:={ tree:=t,n:=n,life:={},gens:= #[],drawn:={},toks:=k,os:=os }
theorem Yk (w:World)(os:OsState):topGo treeTable P0 w 11 (some (.ref 6)) 12 ⟨boot_heap w.params, #[],boot_drawn,boot_toks,os⟩ (topStub P0)=
  some (⟨Ud w.params, #[],{},187,os⟩,⟨denote treeTable E8,E8,Gq, [topFrame Gq]⟩):=by kernel_rfl
theorem Xf (w:World)(os:OsState):segRun treeTable P0 w 11 (some (.ref 6)) 1 1 ⟨Ud w.params, #[],{},187,os⟩ (blockOf MJ NV E8 Gq [topFrame Gq])=
  some (.next,(shT (Uc w.params) 15 187 os).abs,E8,Gq):=by kernel_rfl
theorem p1 (w:World)(os:OsState):segRunT treeTable P0 w 11 (some (.ref 6)) 1 1300 (shT (Uc w.params) 15 187 os) (piecesOf (J6 0 8) NV E8 Gq [topFrame Gq])=
  some (.next,shT (Sg w.params) 179 395 os,E8,Ic 7):=by kernel_rfl
theorem p2 (w:World)(os:OsState):segRunT treeTable P0 w 11 (some (.ref 6)) 1 600 (shT (Sg w.params) 179 395 os) (piecesOf (J6 8 10) NV E8 (Ic 7) [topFrame Gq])=
  some (.next,shT (Sh w.params) 261 499 os,E8,Ic 9):=by kernel_rfl
theorem p3 (w:World)(os:OsState):segRunT treeTable P0 w 11 (some (.ref 6)) 1 900 (shT (Sh w.params) 261 499 os) (piecesOf (J6 10 12) NV E8 (Ic 9) [topFrame Gq])=
  some (.next,shT (Si w.params) 393 668 os,E8,Ic 11):=by kernel_rfl
theorem p4 (w:World)(os:OsState):segRunT treeTable P0 w 11 (some (.ref 6)) 1 900 (shT (Si w.params) 393 668 os) (piecesOf (J6 12 23) NV E8 (Ic 11) [topFrame Gq])=
  some (.next,shT (Sj w.params) 470 773 os,E8,Ic 22):=by kernel_rfl
theorem Yl (w:World)(os:OsState):topRun treeTable P0 w 11 (some (.ref 6)) 2 (shT (Sj w.params) 470 773 os).abs ⟨doneF .next,E8,Ic 22, [topFrame Gq]⟩=
  some ⟨FQ w.params, #[],{},773,os⟩:=by kernel_rfl
theorem XW:MJ=J6 0 8++(J6 8 10++(J6 10 12++(J6 12 23 ++ []))):=by kernel_rfl
end Mine
set_option maxHeartbeats 8000000
namespace Mine
open PySem PySem.W PySem.Calls PyProof.Rows
theorem Sk (P:Params):Vj=(KK P).map (·.1):=by kernel_rfl
noncomputable def HH:Hook:=kHook KK Vj Sk
theorem Xg (w:World)(os:OsState):topRun treeTable P0 w 11 (some (.ref 6)) (12+(1+(1300+(600+(900+(900+2)))))) ⟨boot_heap w.params, #[],boot_drawn,boot_toks,os⟩ (topStub P0)=some ⟨FQ w.params, #[],{},773,os⟩:=by
  refine go_top (Yk w os) (piece_block (Xf w os) ?_)
  rw[XW]
  exact piece_app (segRun_of (p1 w os)) (piece_app (segRun_of (p2 w os)) (piece_app (segRun_of (p3 w os)) (piece_app (segRun_of (p4 w os)) (piece_nil (Yl w os)))))
theorem Xh:opening P0=plainProg P0.main.scope.names:=by kernel_rfl
theorem Wk (w:World):(fencedOpening treeTable P0 w 6178).map (fun s=>(s.heap,s.gens,s.drawn,s.toks))=some (boot_heap w.params,Array.mk [],boot_drawn,boot_toks):=
  boot_open Xh (by decide) (fun s=>by kernel_rfl) w
theorem Wl (w:World):((boot_heap w.params).isNs mainGlobals&&(Array.mk []:Array GenState).size==0,(boot_heap w.params).objs.size,(boot_heap w.params).nsMap mainGlobals "__annotations__")=(true,11,some (.ref 6)):=by kernel_rfl
theorem XX (w:World)(os:OsState):(staticsOk (importedModules P0.main.body) (boot_heap w.params) (FQ w.params)&&namesBound P0 (FQ w.params)&&gensDone ⟨FQ w.params, #[],{},773,os⟩&&laidKept (boot_heap w.params) (FQ w.params))=true:=by kernel_rfl
theorem XY (w:World)(os:OsState):openSeen Ix [] (importedModules P0.main.body) (fun s=>xlAt Ix [] s&&recOk (RowW.records R0.toRowW) s) true ⟨FQ w.params, #[],{},773,os⟩=openGood Ix []:=by kernel_rfl
theorem XZ (w:World)(os:OsState):HH.obs ⟨FQ w.params, #[],{},773,os⟩=HH.val w:=by kernel_rfl
theorem Xi:LeftO R0.toRowW.prog Ix [] (fun s=>xlAt Ix [] s&&recOk (RowW.records R0.toRowW) s) HH.obs HH.val 6178:=
  LeftO.of_pieces (p:=P0) Wk Wl Xg (by decide) fun w=>funext fun os=>by rw[XX w os,XY w os,XZ w os]
noncomputable def Xj:DefRec:=match Bg (22,none) with
  | .FunctionDef name args body _ _ _ scope _ _ pos=>{ name:=name,params:=args,body:=body,scope:=scope,pos:=pos }
  | _=>{ name:=Str.ofString "",params:={ posonlyargs:= [],args:= [],vararg:=none,kwonlyargs:= [],kw_defaults:= [],kwarg:=none,defaults:= [] },body:= [],scope:={ kind:= .function,names:= [],isGenerator:=false,isCoroutine:=false },pos:=Gq }
theorem X2:looksOpen P0=true:=by
  delta looksOpen
  (repeat' with_reducible refine look_both ?_ ?_) <;> kernel_rfl
theorem X3:OpenRow.partSaid R0=true:=by
  delta OpenRow.partSaid
  (repeat' with_reducible refine look_both ?_ ?_)
  · exact X2
  all_goals kernel_rfl
theorem X4:OpenRow.wellSaid R0=true:=by
  delta OpenRow.wellSaid
  (repeat' with_reducible refine look_both ?_ ?_)
  · exact X3
  all_goals kernel_rfl
noncomputable def L0:OpenLaw:=PySem.Challenge.rw_pq0004_01
theorem Xk:OpenLaw.wellSaid L0=true:=by
  delta OpenLaw.wellSaid
  (repeat' with_reducible refine look_both ?_ ?_)
  · exact X4
  all_goals kernel_rfl
theorem hd (walk:WalkO Ix [] (XL Ix []) HH.says PySem.Challenge.rw_pq0004_01.row.toRowW Xj [] fun f vs=>PySem.call f vs):PySem.Challenge.rw_pq0004_01.Holds:=by
  w_on
  refine holds_law Xk fun said=>?_
  refine holds_open (r:=PySem.Challenge.rw_pq0004_01.row) (q:=Ix) (loose:= []) (Xt:=fun s=>xlAt Ix [] s&&recOk (RowW.records R0.toRowW) s) (XP:=XL Ix []) (Yf:=HH.obs) (Ya:=HH.val) (YP:=HH.says) (N:=6178) (d:=Xj) (kwd:= [])
    Xi HH.of HH.keeps (fun s e=>xl_of s (Bool.and_eq_true_iff.mp e).1) XL.keeps (by kernel_rfl) (by kernel_rfl) (by kernel_rfl) (fun s e=>recFacts_of (Bool.and_eq_true_iff.mp e).2) (by kernel_rfl) (by first | assumption | decide +kernel) (by decide +kernel) ⟨rfl,rfl,rfl,rfl,rfl,by decide +kernel⟩ ?hw walk
  w_witness2
end Mine
namespace Mine
universe u0 u1 u2 u3 u4 u5 u6 u7
theorem el0_2 {A0 A1 P:Prop}(h:A0∧A1)(k:A0→A1→P):P:=k h.1 h.2
theorem el0_3 {A0 A1 A2 P:Prop}(h:A0∧A1∧A2)(k:A0→A1→A2→P):P:=k h.1 h.2.1 h.2.2
theorem el0_4 {A0 A1 A2 A3 P:Prop}(h:A0∧A1∧A2∧A3)(k:A0→A1→A2→A3→P):P:=k h.1 h.2.1 h.2.2.1 h.2.2.2
theorem el0_5 {A0 A1 A2 A3 A4 P:Prop}(h:A0∧A1∧A2∧A3∧A4)(k:A0→A1→A2→A3→A4→P):P:=k h.1 h.2.1 h.2.2.1 h.2.2.2.1 h.2.2.2.2
theorem el0_6 {A0 A1 A2 A3 A4 A5 P:Prop}(h:A0∧A1∧A2∧A3∧A4∧A5)(k:A0→A1→A2→A3→A4→A5→P):P:=k h.1 h.2.1 h.2.2.1 h.2.2.2.1 h.2.2.2.2.1 h.2.2.2.2.2
theorem el0_7 {A0 A1 A2 A3 A4 A5 A6 P:Prop}(h:A0∧A1∧A2∧A3∧A4∧A5∧A6)(k:A0→A1→A2→A3→A4→A5→A6→P):P:=k h.1 h.2.1 h.2.2.1 h.2.2.2.1 h.2.2.2.2.1 h.2.2.2.2.2.1 h.2.2.2.2.2.2
theorem el0_8 {A0 A1 A2 A3 A4 A5 A6 A7 P:Prop}(h:A0∧A1∧A2∧A3∧A4∧A5∧A6∧A7)(k:A0→A1→A2→A3→A4→A5→A6→A7→P):P:=k h.1 h.2.1 h.2.2.1 h.2.2.2.1 h.2.2.2.2.1 h.2.2.2.2.2.1 h.2.2.2.2.2.2.1 h.2.2.2.2.2.2.2
theorem el0_9 {A0 A1 A2 A3 A4 A5 A6 A7 A8 P:Prop}(h:A0∧A1∧A2∧A3∧A4∧A5∧A6∧A7∧A8)(k:A0→A1→A2→A3→A4→A5→A6→A7→A8→P):P:=k h.1 h.2.1 h.2.2.1 h.2.2.2.1 h.2.2.2.2.1 h.2.2.2.2.2.1 h.2.2.2.2.2.2.1 h.2.2.2.2.2.2.2.1 h.2.2.2.2.2.2.2.2
theorem el0_10 {A0 A1 A2 A3 A4 A5 A6 A7 A8 A9 P:Prop}(h:A0∧A1∧A2∧A3∧A4∧A5∧A6∧A7∧A8∧A9)(k:A0→A1→A2→A3→A4→A5→A6→A7→A8→A9→P):P:=k h.1 h.2.1 h.2.2.1 h.2.2.2.1 h.2.2.2.2.1 h.2.2.2.2.2.1 h.2.2.2.2.2.2.1 h.2.2.2.2.2.2.2.1 h.2.2.2.2.2.2.2.2.1 h.2.2.2.2.2.2.2.2.2
theorem el0_11 {A0 A1 A2 A3 A4 A5 A6 A7 A8 A9 A10 P:Prop}(h:A0∧A1∧A2∧A3∧A4∧A5∧A6∧A7∧A8∧A9∧A10)(k:A0→A1→A2→A3→A4→A5→A6→A7→A8→A9→A10→P):P:=k h.1 h.2.1 h.2.2.1 h.2.2.2.1 h.2.2.2.2.1 h.2.2.2.2.2.1 h.2.2.2.2.2.2.1 h.2.2.2.2.2.2.2.1 h.2.2.2.2.2.2.2.2.1 h.2.2.2.2.2.2.2.2.2.1 h.2.2.2.2.2.2.2.2.2.2
theorem el0_12 {A0 A1 A2 A3 A4 A5 A6 A7 A8 A9 A10 A11 P:Prop}(h:A0∧A1∧A2∧A3∧A4∧A5∧A6∧A7∧A8∧A9∧A10∧A11)(k:A0→A1→A2→A3→A4→A5→A6→A7→A8→A9→A10→A11→P):P:=k h.1 h.2.1 h.2.2.1 h.2.2.2.1 h.2.2.2.2.1 h.2.2.2.2.2.1 h.2.2.2.2.2.2.1 h.2.2.2.2.2.2.2.1 h.2.2.2.2.2.2.2.2.1 h.2.2.2.2.2.2.2.2.2.1 h.2.2.2.2.2.2.2.2.2.2.1 h.2.2.2.2.2.2.2.2.2.2.2
theorem el0_14 {A0 A1 A2 A3 A4 A5 A6 A7 A8 A9 A10 A11 A12 A13 P:Prop}(h:A0∧A1∧A2∧A3∧A4∧A5∧A6∧A7∧A8∧A9∧A10∧A11∧A12∧A13)(k:A0→A1→A2→A3→A4→A5→A6→A7→A8→A9→A10→A11→A12→A13→P):P:=k h.1 h.2.1 h.2.2.1 h.2.2.2.1 h.2.2.2.2.1 h.2.2.2.2.2.1 h.2.2.2.2.2.2.1 h.2.2.2.2.2.2.2.1 h.2.2.2.2.2.2.2.2.1 h.2.2.2.2.2.2.2.2.2.1 h.2.2.2.2.2.2.2.2.2.2.1 h.2.2.2.2.2.2.2.2.2.2.2.1 h.2.2.2.2.2.2.2.2.2.2.2.2.1 h.2.2.2.2.2.2.2.2.2.2.2.2.2
theorem el1_1 {α0:Sort u0}{A0:α0→Prop}{P:Prop}(h:∃x0,A0 x0)(k:∀x0,A0 x0→P):P:=h.elim fun x0 h=>k x0 h
theorem el1_2 {α0:Sort u0}{A0 A1:α0→Prop}{P:Prop}(h:∃x0,A0 x0∧A1 x0)(k:∀x0,A0 x0→A1 x0→P):P:=h.elim fun x0 h=>el0_2 h (k x0)
theorem el1_3 {α0:Sort u0}{A0 A1 A2:α0→Prop}{P:Prop}(h:∃x0,A0 x0∧A1 x0∧A2 x0)(k:∀x0,A0 x0→A1 x0→A2 x0→P):P:=h.elim fun x0 h=>el0_3 h (k x0)
theorem el1_4 {α0:Sort u0}{A0 A1 A2 A3:α0→Prop}{P:Prop}(h:∃x0,A0 x0∧A1 x0∧A2 x0∧A3 x0)(k:∀x0,A0 x0→A1 x0→A2 x0→A3 x0→P):P:=h.elim fun x0 h=>el0_4 h (k x0)
theorem el1_5 {α0:Sort u0}{A0 A1 A2 A3 A4:α0→Prop}{P:Prop}(h:∃x0,A0 x0∧A1 x0∧A2 x0∧A3 x0∧A4 x0)(k:∀x0,A0 x0→A1 x0→A2 x0→A3 x0→A4 x0→P):P:=h.elim fun x0 h=>el0_5 h (k x0)
theorem el1_6 {α0:Sort u0}{A0 A1 A2 A3 A4 A5:α0→Prop}{P:Prop}(h:∃x0,A0 x0∧A1 x0∧A2 x0∧A3 x0∧A4 x0∧A5 x0)(k:∀x0,A0 x0→A1 x0→A2 x0→A3 x0→A4 x0→A5 x0→P):P:=h.elim fun x0 h=>el0_6 h (k x0)
theorem el1_7 {α0:Sort u0}{A0 A1 A2 A3 A4 A5 A6:α0→Prop}{P:Prop}(h:∃x0,A0 x0∧A1 x0∧A2 x0∧A3 x0∧A4 x0∧A5 x0∧A6 x0)(k:∀x0,A0 x0→A1 x0→A2 x0→A3 x0→A4 x0→A5 x0→A6 x0→P):P:=h.elim fun x0 h=>el0_7 h (k x0)
theorem el1_8 {α0:Sort u0}{A0 A1 A2 A3 A4 A5 A6 A7:α0→Prop}{P:Prop}(h:∃x0,A0 x0∧A1 x0∧A2 x0∧A3 x0∧A4 x0∧A5 x0∧A6 x0∧A7 x0)(k:∀x0,A0 x0→A1 x0→A2 x0→A3 x0→A4 x0→A5 x0→A6 x0→A7 x0→P):P:=h.elim fun x0 h=>el0_8 h (k x0)
theorem el1_9 {α0:Sort u0}{A0 A1 A2 A3 A4 A5 A6 A7 A8:α0→Prop}{P:Prop}(h:∃x0,A0 x0∧A1 x0∧A2 x0∧A3 x0∧A4 x0∧A5 x0∧A6 x0∧A7 x0∧A8 x0)(k:∀x0,A0 x0→A1 x0→A2 x0→A3 x0→A4 x0→A5 x0→A6 x0→A7 x0→A8 x0→P):P:=h.elim fun x0 h=>el0_9 h (k x0)
theorem el1_10 {α0:Sort u0}{A0 A1 A2 A3 A4 A5 A6 A7 A8 A9:α0→Prop}{P:Prop}(h:∃x0,A0 x0∧A1 x0∧A2 x0∧A3 x0∧A4 x0∧A5 x0∧A6 x0∧A7 x0∧A8 x0∧A9 x0)(k:∀x0,A0 x0→A1 x0→A2 x0→A3 x0→A4 x0→A5 x0→A6 x0→A7 x0→A8 x0→A9 x0→P):P:=h.elim fun x0 h=>el0_10 h (k x0)
theorem el1_11 {α0:Sort u0}{A0 A1 A2 A3 A4 A5 A6 A7 A8 A9 A10:α0→Prop}{P:Prop}(h:∃x0,A0 x0∧A1 x0∧A2 x0∧A3 x0∧A4 x0∧A5 x0∧A6 x0∧A7 x0∧A8 x0∧A9 x0∧A10 x0)(k:∀x0,A0 x0→A1 x0→A2 x0→A3 x0→A4 x0→A5 x0→A6 x0→A7 x0→A8 x0→A9 x0→A10 x0→P):P:=h.elim fun x0 h=>el0_11 h (k x0)
theorem el1_12 {α0:Sort u0}{A0 A1 A2 A3 A4 A5 A6 A7 A8 A9 A10 A11:α0→Prop}{P:Prop}(h:∃x0,A0 x0∧A1 x0∧A2 x0∧A3 x0∧A4 x0∧A5 x0∧A6 x0∧A7 x0∧A8 x0∧A9 x0∧A10 x0∧A11 x0)(k:∀x0,A0 x0→A1 x0→A2 x0→A3 x0→A4 x0→A5 x0→A6 x0→A7 x0→A8 x0→A9 x0→A10 x0→A11 x0→P):P:=h.elim fun x0 h=>el0_12 h (k x0)
theorem el1_14 {α0:Sort u0}{A0 A1 A2 A3 A4 A5 A6 A7 A8 A9 A10 A11 A12 A13:α0→Prop}{P:Prop}(h:∃x0,A0 x0∧A1 x0∧A2 x0∧A3 x0∧A4 x0∧A5 x0∧A6 x0∧A7 x0∧A8 x0∧A9 x0∧A10 x0∧A11 x0∧A12 x0∧A13 x0)(k:∀x0,A0 x0→A1 x0→A2 x0→A3 x0→A4 x0→A5 x0→A6 x0→A7 x0→A8 x0→A9 x0→A10 x0→A11 x0→A12 x0→A13 x0→P):P:=h.elim fun x0 h=>el0_14 h (k x0)
theorem el2_1 {α0:Sort u0}{α1:Sort u1}{A0:α0→α1→Prop}{P:Prop}(h:∃x0 x1,A0 x0 x1)(k:∀x0 x1,A0 x0 x1→P):P:=h.elim fun x0 h=>el1_1 h (k x0)
theorem el2_2 {α0:Sort u0}{α1:Sort u1}{A0 A1:α0→α1→Prop}{P:Prop}(h:∃x0 x1,A0 x0 x1∧A1 x0 x1)(k:∀x0 x1,A0 x0 x1→A1 x0 x1→P):P:=h.elim fun x0 h=>el1_2 h (k x0)
theorem el2_3 {α0:Sort u0}{α1:Sort u1}{A0 A1 A2:α0→α1→Prop}{P:Prop}(h:∃x0 x1,A0 x0 x1∧A1 x0 x1∧A2 x0 x1)(k:∀x0 x1,A0 x0 x1→A1 x0 x1→A2 x0 x1→P):P:=h.elim fun x0 h=>el1_3 h (k x0)
theorem el2_4 {α0:Sort u0}{α1:Sort u1}{A0 A1 A2 A3:α0→α1→Prop}{P:Prop}(h:∃x0 x1,A0 x0 x1∧A1 x0 x1∧A2 x0 x1∧A3 x0 x1)(k:∀x0 x1,A0 x0 x1→A1 x0 x1→A2 x0 x1→A3 x0 x1→P):P:=h.elim fun x0 h=>el1_4 h (k x0)
theorem el2_5 {α0:Sort u0}{α1:Sort u1}{A0 A1 A2 A3 A4:α0→α1→Prop}{P:Prop}(h:∃x0 x1,A0 x0 x1∧A1 x0 x1∧A2 x0 x1∧A3 x0 x1∧A4 x0 x1)(k:∀x0 x1,A0 x0 x1→A1 x0 x1→A2 x0 x1→A3 x0 x1→A4 x0 x1→P):P:=h.elim fun x0 h=>el1_5 h (k x0)
theorem el2_6 {α0:Sort u0}{α1:Sort u1}{A0 A1 A2 A3 A4 A5:α0→α1→Prop}{P:Prop}(h:∃x0 x1,A0 x0 x1∧A1 x0 x1∧A2 x0 x1∧A3 x0 x1∧A4 x0 x1∧A5 x0 x1)(k:∀x0 x1,A0 x0 x1→A1 x0 x1→A2 x0 x1→A3 x0 x1→A4 x0 x1→A5 x0 x1→P):P:=h.elim fun x0 h=>el1_6 h (k x0)
theorem el2_7 {α0:Sort u0}{α1:Sort u1}{A0 A1 A2 A3 A4 A5 A6:α0→α1→Prop}{P:Prop}(h:∃x0 x1,A0 x0 x1∧A1 x0 x1∧A2 x0 x1∧A3 x0 x1∧A4 x0 x1∧A5 x0 x1∧A6 x0 x1)(k:∀x0 x1,A0 x0 x1→A1 x0 x1→A2 x0 x1→A3 x0 x1→A4 x0 x1→A5 x0 x1→A6 x0 x1→P):P:=h.elim fun x0 h=>el1_7 h (k x0)
theorem el2_8 {α0:Sort u0}{α1:Sort u1}{A0 A1 A2 A3 A4 A5 A6 A7:α0→α1→Prop}{P:Prop}(h:∃x0 x1,A0 x0 x1∧A1 x0 x1∧A2 x0 x1∧A3 x0 x1∧A4 x0 x1∧A5 x0 x1∧A6 x0 x1∧A7 x0 x1)(k:∀x0 x1,A0 x0 x1→A1 x0 x1→A2 x0 x1→A3 x0 x1→A4 x0 x1→A5 x0 x1→A6 x0 x1→A7 x0 x1→P):P:=h.elim fun x0 h=>el1_8 h (k x0)
theorem el2_9 {α0:Sort u0}{α1:Sort u1}{A0 A1 A2 A3 A4 A5 A6 A7 A8:α0→α1→Prop}{P:Prop}(h:∃x0 x1,A0 x0 x1∧A1 x0 x1∧A2 x0 x1∧A3 x0 x1∧A4 x0 x1∧A5 x0 x1∧A6 x0 x1∧A7 x0 x1∧A8 x0 x1)(k:∀x0 x1,A0 x0 x1→A1 x0 x1→A2 x0 x1→A3 x0 x1→A4 x0 x1→A5 x0 x1→A6 x0 x1→A7 x0 x1→A8 x0 x1→P):P:=h.elim fun x0 h=>el1_9 h (k x0)
theorem el2_10 {α0:Sort u0}{α1:Sort u1}{A0 A1 A2 A3 A4 A5 A6 A7 A8 A9:α0→α1→Prop}{P:Prop}(h:∃x0 x1,A0 x0 x1∧A1 x0 x1∧A2 x0 x1∧A3 x0 x1∧A4 x0 x1∧A5 x0 x1∧A6 x0 x1∧A7 x0 x1∧A8 x0 x1∧A9 x0 x1)(k:∀x0 x1,A0 x0 x1→A1 x0 x1→A2 x0 x1→A3 x0 x1→A4 x0 x1→A5 x0 x1→A6 x0 x1→A7 x0 x1→A8 x0 x1→A9 x0 x1→P):P:=h.elim fun x0 h=>el1_10 h (k x0)
theorem el2_11 {α0:Sort u0}{α1:Sort u1}{A0 A1 A2 A3 A4 A5 A6 A7 A8 A9 A10:α0→α1→Prop}{P:Prop}(h:∃x0 x1,A0 x0 x1∧A1 x0 x1∧A2 x0 x1∧A3 x0 x1∧A4 x0 x1∧A5 x0 x1∧A6 x0 x1∧A7 x0 x1∧A8 x0 x1∧A9 x0 x1∧A10 x0 x1)(k:∀x0 x1,A0 x0 x1→A1 x0 x1→A2 x0 x1→A3 x0 x1→A4 x0 x1→A5 x0 x1→A6 x0 x1→A7 x0 x1→A8 x0 x1→A9 x0 x1→A10 x0 x1→P):P:=h.elim fun x0 h=>el1_11 h (k x0)
theorem el2_12 {α0:Sort u0}{α1:Sort u1}{A0 A1 A2 A3 A4 A5 A6 A7 A8 A9 A10 A11:α0→α1→Prop}{P:Prop}(h:∃x0 x1,A0 x0 x1∧A1 x0 x1∧A2 x0 x1∧A3 x0 x1∧A4 x0 x1∧A5 x0 x1∧A6 x0 x1∧A7 x0 x1∧A8 x0 x1∧A9 x0 x1∧A10 x0 x1∧A11 x0 x1)(k:∀x0 x1,A0 x0 x1→A1 x0 x1→A2 x0 x1→A3 x0 x1→A4 x0 x1→A5 x0 x1→A6 x0 x1→A7 x0 x1→A8 x0 x1→A9 x0 x1→A10 x0 x1→A11 x0 x1→P):P:=h.elim fun x0 h=>el1_12 h (k x0)
theorem el2_14 {α0:Sort u0}{α1:Sort u1}{A0 A1 A2 A3 A4 A5 A6 A7 A8 A9 A10 A11 A12 A13:α0→α1→Prop}{P:Prop}(h:∃x0 x1,A0 x0 x1∧A1 x0 x1∧A2 x0 x1∧A3 x0 x1∧A4 x0 x1∧A5 x0 x1∧A6 x0 x1∧A7 x0 x1∧A8 x0 x1∧A9 x0 x1∧A10 x0 x1∧A11 x0 x1∧A12 x0 x1∧A13 x0 x1)(k:∀x0 x1,A0 x0 x1→A1 x0 x1→A2 x0 x1→A3 x0 x1→A4 x0 x1→A5 x0 x1→A6 x0 x1→A7 x0 x1→A8 x0 x1→A9 x0 x1→A10 x0 x1→A11 x0 x1→A12 x0 x1→A13 x0 x1→P):P:=h.elim fun x0 h=>el1_14 h (k x0)
theorem el3_1 {α0:Sort u0}{α1:Sort u1}{α2:Sort u2}{A0:α0→α1→α2→Prop}{P:Prop}(h:∃x0 x1 x2,A0 x0 x1 x2)(k:∀x0 x1 x2,A0 x0 x1 x2→P):P:=h.elim fun x0 h=>el2_1 h (k x0)
theorem el3_2 {α0:Sort u0}{α1:Sort u1}{α2:Sort u2}{A0 A1:α0→α1→α2→Prop}{P:Prop}(h:∃x0 x1 x2,A0 x0 x1 x2∧A1 x0 x1 x2)(k:∀x0 x1 x2,A0 x0 x1 x2→A1 x0 x1 x2→P):P:=h.elim fun x0 h=>el2_2 h (k x0)
theorem el3_3 {α0:Sort u0}{α1:Sort u1}{α2:Sort u2}{A0 A1 A2:α0→α1→α2→Prop}{P:Prop}(h:∃x0 x1 x2,A0 x0 x1 x2∧A1 x0 x1 x2∧A2 x0 x1 x2)(k:∀x0 x1 x2,A0 x0 x1 x2→A1 x0 x1 x2→A2 x0 x1 x2→P):P:=h.elim fun x0 h=>el2_3 h (k x0)
theorem el3_4 {α0:Sort u0}{α1:Sort u1}{α2:Sort u2}{A0 A1 A2 A3:α0→α1→α2→Prop}{P:Prop}(h:∃x0 x1 x2,A0 x0 x1 x2∧A1 x0 x1 x2∧A2 x0 x1 x2∧A3 x0 x1 x2)(k:∀x0 x1 x2,A0 x0 x1 x2→A1 x0 x1 x2→A2 x0 x1 x2→A3 x0 x1 x2→P):P:=h.elim fun x0 h=>el2_4 h (k x0)
theorem el3_5 {α0:Sort u0}{α1:Sort u1}{α2:Sort u2}{A0 A1 A2 A3 A4:α0→α1→α2→Prop}{P:Prop}(h:∃x0 x1 x2,A0 x0 x1 x2∧A1 x0 x1 x2∧A2 x0 x1 x2∧A3 x0 x1 x2∧A4 x0 x1 x2)(k:∀x0 x1 x2,A0 x0 x1 x2→A1 x0 x1 x2→A2 x0 x1 x2→A3 x0 x1 x2→A4 x0 x1 x2→P):P:=h.elim fun x0 h=>el2_5 h (k x0)
theorem el3_6 {α0:Sort u0}{α1:Sort u1}{α2:Sort u2}{A0 A1 A2 A3 A4 A5:α0→α1→α2→Prop}{P:Prop}(h:∃x0 x1 x2,A0 x0 x1 x2∧A1 x0 x1 x2∧A2 x0 x1 x2∧A3 x0 x1 x2∧A4 x0 x1 x2∧A5 x0 x1 x2)(k:∀x0 x1 x2,A0 x0 x1 x2→A1 x0 x1 x2→A2 x0 x1 x2→A3 x0 x1 x2→A4 x0 x1 x2→A5 x0 x1 x2→P):P:=h.elim fun x0 h=>el2_6 h (k x0)
theorem el3_7 {α0:Sort u0}{α1:Sort u1}{α2:Sort u2}{A0 A1 A2 A3 A4 A5 A6:α0→α1→α2→Prop}{P:Prop}(h:∃x0 x1 x2,A0 x0 x1 x2∧A1 x0 x1 x2∧A2 x0 x1 x2∧A3 x0 x1 x2∧A4 x0 x1 x2∧A5 x0 x1 x2∧A6 x0 x1 x2)(k:∀x0 x1 x2,A0 x0 x1 x2→A1 x0 x1 x2→A2 x0 x1 x2→A3 x0 x1 x2→A4 x0 x1 x2→A5 x0 x1 x2→A6 x0 x1 x2→P):P:=h.elim fun x0 h=>el2_7 h (k x0)
theorem el3_8 {α0:Sort u0}{α1:Sort u1}{α2:Sort u2}{A0 A1 A2 A3 A4 A5 A6 A7:α0→α1→α2→Prop}{P:Prop}(h:∃x0 x1 x2,A0 x0 x1 x2∧A1 x0 x1 x2∧A2 x0 x1 x2∧A3 x0 x1 x2∧A4 x0 x1 x2∧A5 x0 x1 x2∧A6 x0 x1 x2∧A7 x0 x1 x2)(k:∀x0 x1 x2,A0 x0 x1 x2→A1 x0 x1 x2→A2 x0 x1 x2→A3 x0 x1 x2→A4 x0 x1 x2→A5 x0 x1 x2→A6 x0 x1 x2→A7 x0 x1 x2→P):P:=h.elim fun x0 h=>el2_8 h (k x0)
theorem el3_9 {α0:Sort u0}{α1:Sort u1}{α2:Sort u2}{A0 A1 A2 A3 A4 A5 A6 A7 A8:α0→α1→α2→Prop}{P:Prop}(h:∃x0 x1 x2,A0 x0 x1 x2∧A1 x0 x1 x2∧A2 x0 x1 x2∧A3 x0 x1 x2∧A4 x0 x1 x2∧A5 x0 x1 x2∧A6 x0 x1 x2∧A7 x0 x1 x2∧A8 x0 x1 x2)(k:∀x0 x1 x2,A0 x0 x1 x2→A1 x0 x1 x2→A2 x0 x1 x2→A3 x0 x1 x2→A4 x0 x1 x2→A5 x0 x1 x2→A6 x0 x1 x2→A7 x0 x1 x2→A8 x0 x1 x2→P):P:=h.elim fun x0 h=>el2_9 h (k x0)
theorem el3_10 {α0:Sort u0}{α1:Sort u1}{α2:Sort u2}{A0 A1 A2 A3 A4 A5 A6 A7 A8 A9:α0→α1→α2→Prop}{P:Prop}(h:∃x0 x1 x2,A0 x0 x1 x2∧A1 x0 x1 x2∧A2 x0 x1 x2∧A3 x0 x1 x2∧A4 x0 x1 x2∧A5 x0 x1 x2∧A6 x0 x1 x2∧A7 x0 x1 x2∧A8 x0 x1 x2∧A9 x0 x1 x2)(k:∀x0 x1 x2,A0 x0 x1 x2→A1 x0 x1 x2→A2 x0 x1 x2→A3 x0 x1 x2→A4 x0 x1 x2→A5 x0 x1 x2→A6 x0 x1 x2→A7 x0 x1 x2→A8 x0 x1 x2→A9 x0 x1 x2→P):P:=h.elim fun x0 h=>el2_10 h (k x0)
theorem el3_11 {α0:Sort u0}{α1:Sort u1}{α2:Sort u2}{A0 A1 A2 A3 A4 A5 A6 A7 A8 A9 A10:α0→α1→α2→Prop}{P:Prop}(h:∃x0 x1 x2,A0 x0 x1 x2∧A1 x0 x1 x2∧A2 x0 x1 x2∧A3 x0 x1 x2∧A4 x0 x1 x2∧A5 x0 x1 x2∧A6 x0 x1 x2∧A7 x0 x1 x2∧A8 x0 x1 x2∧A9 x0 x1 x2∧A10 x0 x1 x2)(k:∀x0 x1 x2,A0 x0 x1 x2→A1 x0 x1 x2→A2 x0 x1 x2→A3 x0 x1 x2→A4 x0 x1 x2→A5 x0 x1 x2→A6 x0 x1 x2→A7 x0 x1 x2→A8 x0 x1 x2→A9 x0 x1 x2→A10 x0 x1 x2→P):P:=h.elim fun x0 h=>el2_11 h (k x0)
theorem el3_12 {α0:Sort u0}{α1:Sort u1}{α2:Sort u2}{A0 A1 A2 A3 A4 A5 A6 A7 A8 A9 A10 A11:α0→α1→α2→Prop}{P:Prop}(h:∃x0 x1 x2,A0 x0 x1 x2∧A1 x0 x1 x2∧A2 x0 x1 x2∧A3 x0 x1 x2∧A4 x0 x1 x2∧A5 x0 x1 x2∧A6 x0 x1 x2∧A7 x0 x1 x2∧A8 x0 x1 x2∧A9 x0 x1 x2∧A10 x0 x1 x2∧A11 x0 x1 x2)(k:∀x0 x1 x2,A0 x0 x1 x2→A1 x0 x1 x2→A2 x0 x1 x2→A3 x0 x1 x2→A4 x0 x1 x2→A5 x0 x1 x2→A6 x0 x1 x2→A7 x0 x1 x2→A8 x0 x1 x2→A9 x0 x1 x2→A10 x0 x1 x2→A11 x0 x1 x2→P):P:=h.elim fun x0 h=>el2_12 h (k x0)
theorem el3_14 {α0:Sort u0}{α1:Sort u1}{α2:Sort u2}{A0 A1 A2 A3 A4 A5 A6 A7 A8 A9 A10 A11 A12 A13:α0→α1→α2→Prop}{P:Prop}(h:∃x0 x1 x2,A0 x0 x1 x2∧A1 x0 x1 x2∧A2 x0 x1 x2∧A3 x0 x1 x2∧A4 x0 x1 x2∧A5 x0 x1 x2∧A6 x0 x1 x2∧A7 x0 x1 x2∧A8 x0 x1 x2∧A9 x0 x1 x2∧A10 x0 x1 x2∧A11 x0 x1 x2∧A12 x0 x1 x2∧A13 x0 x1 x2)(k:∀x0 x1 x2,A0 x0 x1 x2→A1 x0 x1 x2→A2 x0 x1 x2→A3 x0 x1 x2→A4 x0 x1 x2→A5 x0 x1 x2→A6 x0 x1 x2→A7 x0 x1 x2→A8 x0 x1 x2→A9 x0 x1 x2→A10 x0 x1 x2→A11 x0 x1 x2→A12 x0 x1 x2→A13 x0 x1 x2→P):P:=h.elim fun x0 h=>el2_14 h (k x0)
theorem el4_2 {α0:Sort u0}{α1:Sort u1}{α2:Sort u2}{α3:Sort u3}{A0 A1:α0→α1→α2→α3→Prop}{P:Prop}(h:∃x0 x1 x2 x3,A0 x0 x1 x2 x3∧A1 x0 x1 x2 x3)(k:∀x0 x1 x2 x3,A0 x0 x1 x2 x3→A1 x0 x1 x2 x3→P):P:=h.elim fun x0 h=>el3_2 h (k x0)
theorem el4_3 {α0:Sort u0}{α1:Sort u1}{α2:Sort u2}{α3:Sort u3}{A0 A1 A2:α0→α1→α2→α3→Prop}{P:Prop}(h:∃x0 x1 x2 x3,A0 x0 x1 x2 x3∧A1 x0 x1 x2 x3∧A2 x0 x1 x2 x3)(k:∀x0 x1 x2 x3,A0 x0 x1 x2 x3→A1 x0 x1 x2 x3→A2 x0 x1 x2 x3→P):P:=h.elim fun x0 h=>el3_3 h (k x0)
theorem el4_4 {α0:Sort u0}{α1:Sort u1}{α2:Sort u2}{α3:Sort u3}{A0 A1 A2 A3:α0→α1→α2→α3→Prop}{P:Prop}(h:∃x0 x1 x2 x3,A0 x0 x1 x2 x3∧A1 x0 x1 x2 x3∧A2 x0 x1 x2 x3∧A3 x0 x1 x2 x3)(k:∀x0 x1 x2 x3,A0 x0 x1 x2 x3→A1 x0 x1 x2 x3→A2 x0 x1 x2 x3→A3 x0 x1 x2 x3→P):P:=h.elim fun x0 h=>el3_4 h (k x0)
theorem el4_5 {α0:Sort u0}{α1:Sort u1}{α2:Sort u2}{α3:Sort u3}{A0 A1 A2 A3 A4:α0→α1→α2→α3→Prop}{P:Prop}(h:∃x0 x1 x2 x3,A0 x0 x1 x2 x3∧A1 x0 x1 x2 x3∧A2 x0 x1 x2 x3∧A3 x0 x1 x2 x3∧A4 x0 x1 x2 x3)(k:∀x0 x1 x2 x3,A0 x0 x1 x2 x3→A1 x0 x1 x2 x3→A2 x0 x1 x2 x3→A3 x0 x1 x2 x3→A4 x0 x1 x2 x3→P):P:=h.elim fun x0 h=>el3_5 h (k x0)
theorem el4_6 {α0:Sort u0}{α1:Sort u1}{α2:Sort u2}{α3:Sort u3}{A0 A1 A2 A3 A4 A5:α0→α1→α2→α3→Prop}{P:Prop}(h:∃x0 x1 x2 x3,A0 x0 x1 x2 x3∧A1 x0 x1 x2 x3∧A2 x0 x1 x2 x3∧A3 x0 x1 x2 x3∧A4 x0 x1 x2 x3∧A5 x0 x1 x2 x3)(k:∀x0 x1 x2 x3,A0 x0 x1 x2 x3→A1 x0 x1 x2 x3→A2 x0 x1 x2 x3→A3 x0 x1 x2 x3→A4 x0 x1 x2 x3→A5 x0 x1 x2 x3→P):P:=h.elim fun x0 h=>el3_6 h (k x0)
theorem el4_7 {α0:Sort u0}{α1:Sort u1}{α2:Sort u2}{α3:Sort u3}{A0 A1 A2 A3 A4 A5 A6:α0→α1→α2→α3→Prop}{P:Prop}(h:∃x0 x1 x2 x3,A0 x0 x1 x2 x3∧A1 x0 x1 x2 x3∧A2 x0 x1 x2 x3∧A3 x0 x1 x2 x3∧A4 x0 x1 x2 x3∧A5 x0 x1 x2 x3∧A6 x0 x1 x2 x3)(k:∀x0 x1 x2 x3,A0 x0 x1 x2 x3→A1 x0 x1 x2 x3→A2 x0 x1 x2 x3→A3 x0 x1 x2 x3→A4 x0 x1 x2 x3→A5 x0 x1 x2 x3→A6 x0 x1 x2 x3→P):P:=h.elim fun x0 h=>el3_7 h (k x0)
theorem el4_8 {α0:Sort u0}{α1:Sort u1}{α2:Sort u2}{α3:Sort u3}{A0 A1 A2 A3 A4 A5 A6 A7:α0→α1→α2→α3→Prop}{P:Prop}(h:∃x0 x1 x2 x3,A0 x0 x1 x2 x3∧A1 x0 x1 x2 x3∧A2 x0 x1 x2 x3∧A3 x0 x1 x2 x3∧A4 x0 x1 x2 x3∧A5 x0 x1 x2 x3∧A6 x0 x1 x2 x3∧A7 x0 x1 x2 x3)(k:∀x0 x1 x2 x3,A0 x0 x1 x2 x3→A1 x0 x1 x2 x3→A2 x0 x1 x2 x3→A3 x0 x1 x2 x3→A4 x0 x1 x2 x3→A5 x0 x1 x2 x3→A6 x0 x1 x2 x3→A7 x0 x1 x2 x3→P):P:=h.elim fun x0 h=>el3_8 h (k x0)
theorem el4_9 {α0:Sort u0}{α1:Sort u1}{α2:Sort u2}{α3:Sort u3}{A0 A1 A2 A3 A4 A5 A6 A7 A8:α0→α1→α2→α3→Prop}{P:Prop}(h:∃x0 x1 x2 x3,A0 x0 x1 x2 x3∧A1 x0 x1 x2 x3∧A2 x0 x1 x2 x3∧A3 x0 x1 x2 x3∧A4 x0 x1 x2 x3∧A5 x0 x1 x2 x3∧A6 x0 x1 x2 x3∧A7 x0 x1 x2 x3∧A8 x0 x1 x2 x3)(k:∀x0 x1 x2 x3,A0 x0 x1 x2 x3→A1 x0 x1 x2 x3→A2 x0 x1 x2 x3→A3 x0 x1 x2 x3→A4 x0 x1 x2 x3→A5 x0 x1 x2 x3→A6 x0 x1 x2 x3→A7 x0 x1 x2 x3→A8 x0 x1 x2 x3→P):P:=h.elim fun x0 h=>el3_9 h (k x0)
theorem el4_10 {α0:Sort u0}{α1:Sort u1}{α2:Sort u2}{α3:Sort u3}{A0 A1 A2 A3 A4 A5 A6 A7 A8 A9:α0→α1→α2→α3→Prop}{P:Prop}(h:∃x0 x1 x2 x3,A0 x0 x1 x2 x3∧A1 x0 x1 x2 x3∧A2 x0 x1 x2 x3∧A3 x0 x1 x2 x3∧A4 x0 x1 x2 x3∧A5 x0 x1 x2 x3∧A6 x0 x1 x2 x3∧A7 x0 x1 x2 x3∧A8 x0 x1 x2 x3∧A9 x0 x1 x2 x3)(k:∀x0 x1 x2 x3,A0 x0 x1 x2 x3→A1 x0 x1 x2 x3→A2 x0 x1 x2 x3→A3 x0 x1 x2 x3→A4 x0 x1 x2 x3→A5 x0 x1 x2 x3→A6 x0 x1 x2 x3→A7 x0 x1 x2 x3→A8 x0 x1 x2 x3→A9 x0 x1 x2 x3→P):P:=h.elim fun x0 h=>el3_10 h (k x0)
theorem el4_11 {α0:Sort u0}{α1:Sort u1}{α2:Sort u2}{α3:Sort u3}{A0 A1 A2 A3 A4 A5 A6 A7 A8 A9 A10:α0→α1→α2→α3→Prop}{P:Prop}(h:∃x0 x1 x2 x3,A0 x0 x1 x2 x3∧A1 x0 x1 x2 x3∧A2 x0 x1 x2 x3∧A3 x0 x1 x2 x3∧A4 x0 x1 x2 x3∧A5 x0 x1 x2 x3∧A6 x0 x1 x2 x3∧A7 x0 x1 x2 x3∧A8 x0 x1 x2 x3∧A9 x0 x1 x2 x3∧A10 x0 x1 x2 x3)(k:∀x0 x1 x2 x3,A0 x0 x1 x2 x3→A1 x0 x1 x2 x3→A2 x0 x1 x2 x3→A3 x0 x1 x2 x3→A4 x0 x1 x2 x3→A5 x0 x1 x2 x3→A6 x0 x1 x2 x3→A7 x0 x1 x2 x3→A8 x0 x1 x2 x3→A9 x0 x1 x2 x3→A10 x0 x1 x2 x3→P):P:=h.elim fun x0 h=>el3_11 h (k x0)
theorem el4_12 {α0:Sort u0}{α1:Sort u1}{α2:Sort u2}{α3:Sort u3}{A0 A1 A2 A3 A4 A5 A6 A7 A8 A9 A10 A11:α0→α1→α2→α3→Prop}{P:Prop}(h:∃x0 x1 x2 x3,A0 x0 x1 x2 x3∧A1 x0 x1 x2 x3∧A2 x0 x1 x2 x3∧A3 x0 x1 x2 x3∧A4 x0 x1 x2 x3∧A5 x0 x1 x2 x3∧A6 x0 x1 x2 x3∧A7 x0 x1 x2 x3∧A8 x0 x1 x2 x3∧A9 x0 x1 x2 x3∧A10 x0 x1 x2 x3∧A11 x0 x1 x2 x3)(k:∀x0 x1 x2 x3,A0 x0 x1 x2 x3→A1 x0 x1 x2 x3→A2 x0 x1 x2 x3→A3 x0 x1 x2 x3→A4 x0 x1 x2 x3→A5 x0 x1 x2 x3→A6 x0 x1 x2 x3→A7 x0 x1 x2 x3→A8 x0 x1 x2 x3→A9 x0 x1 x2 x3→A10 x0 x1 x2 x3→A11 x0 x1 x2 x3→P):P:=h.elim fun x0 h=>el3_12 h (k x0)
theorem el4_14 {α0:Sort u0}{α1:Sort u1}{α2:Sort u2}{α3:Sort u3}{A0 A1 A2 A3 A4 A5 A6 A7 A8 A9 A10 A11 A12 A13:α0→α1→α2→α3→Prop}{P:Prop}(h:∃x0 x1 x2 x3,A0 x0 x1 x2 x3∧A1 x0 x1 x2 x3∧A2 x0 x1 x2 x3∧A3 x0 x1 x2 x3∧A4 x0 x1 x2 x3∧A5 x0 x1 x2 x3∧A6 x0 x1 x2 x3∧A7 x0 x1 x2 x3∧A8 x0 x1 x2 x3∧A9 x0 x1 x2 x3∧A10 x0 x1 x2 x3∧A11 x0 x1 x2 x3∧A12 x0 x1 x2 x3∧A13 x0 x1 x2 x3)(k:∀x0 x1 x2 x3,A0 x0 x1 x2 x3→A1 x0 x1 x2 x3→A2 x0 x1 x2 x3→A3 x0 x1 x2 x3→A4 x0 x1 x2 x3→A5 x0 x1 x2 x3→A6 x0 x1 x2 x3→A7 x0 x1 x2 x3→A8 x0 x1 x2 x3→A9 x0 x1 x2 x3→A10 x0 x1 x2 x3→A11 x0 x1 x2 x3→A12 x0 x1 x2 x3→A13 x0 x1 x2 x3→P):P:=h.elim fun x0 h=>el3_14 h (k x0)
theorem el5_5 {α0:Sort u0}{α1:Sort u1}{α2:Sort u2}{α3:Sort u3}{α4:Sort u4}{A0 A1 A2 A3 A4:α0→α1→α2→α3→α4→Prop}{P:Prop}(h:∃x0 x1 x2 x3 x4,A0 x0 x1 x2 x3 x4∧A1 x0 x1 x2 x3 x4∧A2 x0 x1 x2 x3 x4∧A3 x0 x1 x2 x3 x4∧A4 x0 x1 x2 x3 x4)(k:∀x0 x1 x2 x3 x4,A0 x0 x1 x2 x3 x4→A1 x0 x1 x2 x3 x4→A2 x0 x1 x2 x3 x4→A3 x0 x1 x2 x3 x4→A4 x0 x1 x2 x3 x4→P):P:=h.elim fun x0 h=>el4_5 h (k x0)
theorem el5_7 {α0:Sort u0}{α1:Sort u1}{α2:Sort u2}{α3:Sort u3}{α4:Sort u4}{A0 A1 A2 A3 A4 A5 A6:α0→α1→α2→α3→α4→Prop}{P:Prop}(h:∃x0 x1 x2 x3 x4,A0 x0 x1 x2 x3 x4∧A1 x0 x1 x2 x3 x4∧A2 x0 x1 x2 x3 x4∧A3 x0 x1 x2 x3 x4∧A4 x0 x1 x2 x3 x4∧A5 x0 x1 x2 x3 x4∧A6 x0 x1 x2 x3 x4)(k:∀x0 x1 x2 x3 x4,A0 x0 x1 x2 x3 x4→A1 x0 x1 x2 x3 x4→A2 x0 x1 x2 x3 x4→A3 x0 x1 x2 x3 x4→A4 x0 x1 x2 x3 x4→A5 x0 x1 x2 x3 x4→A6 x0 x1 x2 x3 x4→P):P:=h.elim fun x0 h=>el4_7 h (k x0)
theorem el5_11 {α0:Sort u0}{α1:Sort u1}{α2:Sort u2}{α3:Sort u3}{α4:Sort u4}{A0 A1 A2 A3 A4 A5 A6 A7 A8 A9 A10:α0→α1→α2→α3→α4→Prop}{P:Prop}(h:∃x0 x1 x2 x3 x4,A0 x0 x1 x2 x3 x4∧A1 x0 x1 x2 x3 x4∧A2 x0 x1 x2 x3 x4∧A3 x0 x1 x2 x3 x4∧A4 x0 x1 x2 x3 x4∧A5 x0 x1 x2 x3 x4∧A6 x0 x1 x2 x3 x4∧A7 x0 x1 x2 x3 x4∧A8 x0 x1 x2 x3 x4∧A9 x0 x1 x2 x3 x4∧A10 x0 x1 x2 x3 x4)(k:∀x0 x1 x2 x3 x4,A0 x0 x1 x2 x3 x4→A1 x0 x1 x2 x3 x4→A2 x0 x1 x2 x3 x4→A3 x0 x1 x2 x3 x4→A4 x0 x1 x2 x3 x4→A5 x0 x1 x2 x3 x4→A6 x0 x1 x2 x3 x4→A7 x0 x1 x2 x3 x4→A8 x0 x1 x2 x3 x4→A9 x0 x1 x2 x3 x4→A10 x0 x1 x2 x3 x4→P):P:=h.elim fun x0 h=>el4_11 h (k x0)
theorem el5_14 {α0:Sort u0}{α1:Sort u1}{α2:Sort u2}{α3:Sort u3}{α4:Sort u4}{A0 A1 A2 A3 A4 A5 A6 A7 A8 A9 A10 A11 A12 A13:α0→α1→α2→α3→α4→Prop}{P:Prop}(h:∃x0 x1 x2 x3 x4,A0 x0 x1 x2 x3 x4∧A1 x0 x1 x2 x3 x4∧A2 x0 x1 x2 x3 x4∧A3 x0 x1 x2 x3 x4∧A4 x0 x1 x2 x3 x4∧A5 x0 x1 x2 x3 x4∧A6 x0 x1 x2 x3 x4∧A7 x0 x1 x2 x3 x4∧A8 x0 x1 x2 x3 x4∧A9 x0 x1 x2 x3 x4∧A10 x0 x1 x2 x3 x4∧A11 x0 x1 x2 x3 x4∧A12 x0 x1 x2 x3 x4∧A13 x0 x1 x2 x3 x4)(k:∀x0 x1 x2 x3 x4,A0 x0 x1 x2 x3 x4→A1 x0 x1 x2 x3 x4→A2 x0 x1 x2 x3 x4→A3 x0 x1 x2 x3 x4→A4 x0 x1 x2 x3 x4→A5 x0 x1 x2 x3 x4→A6 x0 x1 x2 x3 x4→A7 x0 x1 x2 x3 x4→A8 x0 x1 x2 x3 x4→A9 x0 x1 x2 x3 x4→A10 x0 x1 x2 x3 x4→A11 x0 x1 x2 x3 x4→A12 x0 x1 x2 x3 x4→A13 x0 x1 x2 x3 x4→P):P:=h.elim fun x0 h=>el4_14 h (k x0)
theorem el6_5 {α0:Sort u0}{α1:Sort u1}{α2:Sort u2}{α3:Sort u3}{α4:Sort u4}{α5:Sort u5}{A0 A1 A2 A3 A4:α0→α1→α2→α3→α4→α5→Prop}{P:Prop}(h:∃x0 x1 x2 x3 x4 x5,A0 x0 x1 x2 x3 x4 x5∧A1 x0 x1 x2 x3 x4 x5∧A2 x0 x1 x2 x3 x4 x5∧A3 x0 x1 x2 x3 x4 x5∧A4 x0 x1 x2 x3 x4 x5)(k:∀x0 x1 x2 x3 x4 x5,A0 x0 x1 x2 x3 x4 x5→A1 x0 x1 x2 x3 x4 x5→A2 x0 x1 x2 x3 x4 x5→A3 x0 x1 x2 x3 x4 x5→A4 x0 x1 x2 x3 x4 x5→P):P:=h.elim fun x0 h=>el5_5 h (k x0)
theorem el6_7 {α0:Sort u0}{α1:Sort u1}{α2:Sort u2}{α3:Sort u3}{α4:Sort u4}{α5:Sort u5}{A0 A1 A2 A3 A4 A5 A6:α0→α1→α2→α3→α4→α5→Prop}{P:Prop}(h:∃x0 x1 x2 x3 x4 x5,A0 x0 x1 x2 x3 x4 x5∧A1 x0 x1 x2 x3 x4 x5∧A2 x0 x1 x2 x3 x4 x5∧A3 x0 x1 x2 x3 x4 x5∧A4 x0 x1 x2 x3 x4 x5∧A5 x0 x1 x2 x3 x4 x5∧A6 x0 x1 x2 x3 x4 x5)(k:∀x0 x1 x2 x3 x4 x5,A0 x0 x1 x2 x3 x4 x5→A1 x0 x1 x2 x3 x4 x5→A2 x0 x1 x2 x3 x4 x5→A3 x0 x1 x2 x3 x4 x5→A4 x0 x1 x2 x3 x4 x5→A5 x0 x1 x2 x3 x4 x5→A6 x0 x1 x2 x3 x4 x5→P):P:=h.elim fun x0 h=>el5_7 h (k x0)
theorem el6_11 {α0:Sort u0}{α1:Sort u1}{α2:Sort u2}{α3:Sort u3}{α4:Sort u4}{α5:Sort u5}{A0 A1 A2 A3 A4 A5 A6 A7 A8 A9 A10:α0→α1→α2→α3→α4→α5→Prop}{P:Prop}(h:∃x0 x1 x2 x3 x4 x5,A0 x0 x1 x2 x3 x4 x5∧A1 x0 x1 x2 x3 x4 x5∧A2 x0 x1 x2 x3 x4 x5∧A3 x0 x1 x2 x3 x4 x5∧A4 x0 x1 x2 x3 x4 x5∧A5 x0 x1 x2 x3 x4 x5∧A6 x0 x1 x2 x3 x4 x5∧A7 x0 x1 x2 x3 x4 x5∧A8 x0 x1 x2 x3 x4 x5∧A9 x0 x1 x2 x3 x4 x5∧A10 x0 x1 x2 x3 x4 x5)(k:∀x0 x1 x2 x3 x4 x5,A0 x0 x1 x2 x3 x4 x5→A1 x0 x1 x2 x3 x4 x5→A2 x0 x1 x2 x3 x4 x5→A3 x0 x1 x2 x3 x4 x5→A4 x0 x1 x2 x3 x4 x5→A5 x0 x1 x2 x3 x4 x5→A6 x0 x1 x2 x3 x4 x5→A7 x0 x1 x2 x3 x4 x5→A8 x0 x1 x2 x3 x4 x5→A9 x0 x1 x2 x3 x4 x5→A10 x0 x1 x2 x3 x4 x5→P):P:=h.elim fun x0 h=>el5_11 h (k x0)
theorem in0_3 {A0 A1 A2:Prop}(h0:A0)(h1:A1)(h2:A2):A0∧A1∧A2:=⟨h0,h1,h2⟩
theorem in0_4 {A0 A1 A2 A3:Prop}(h0:A0)(h1:A1)(h2:A2)(h3:A3):A0∧A1∧A2∧A3:=⟨h0,h1,h2,h3⟩
theorem in0_5 {A0 A1 A2 A3 A4:Prop}(h0:A0)(h1:A1)(h2:A2)(h3:A3)(h4:A4):A0∧A1∧A2∧A3∧A4:=⟨h0,h1,h2,h3,h4⟩
theorem in0_10 {A0 A1 A2 A3 A4 A5 A6 A7 A8 A9:Prop}(h0:A0)(h1:A1)(h2:A2)(h3:A3)(h4:A4)(h5:A5)(h6:A6)(h7:A7)(h8:A8)(h9:A9):A0∧A1∧A2∧A3∧A4∧A5∧A6∧A7∧A8∧A9:=⟨h0,h1,h2,h3,h4,h5,h6,h7,h8,h9⟩
theorem in1_2 {α0:Sort u0}{A0 A1:α0→Prop}(x0:α0)(h0:A0 x0)(h1:A1 x0):∃x0,A0 x0∧A1 x0:=⟨x0,h0,h1⟩
theorem in1_3 {α0:Sort u0}{A0 A1 A2:α0→Prop}(x0:α0)(h0:A0 x0)(h1:A1 x0)(h2:A2 x0):∃x0,A0 x0∧A1 x0∧A2 x0:=⟨x0,h0,h1,h2⟩
theorem in1_4 {α0:Sort u0}{A0 A1 A2 A3:α0→Prop}(x0:α0)(h0:A0 x0)(h1:A1 x0)(h2:A2 x0)(h3:A3 x0):∃x0,A0 x0∧A1 x0∧A2 x0∧A3 x0:=⟨x0,h0,h1,h2,h3⟩
theorem in2_1 {α0:Sort u0}{α1:Sort u1}{A0:α0→α1→Prop}(x0:α0)(x1:α1)(h0:A0 x0 x1):∃x0 x1,A0 x0 x1:=⟨x0,x1,h0⟩
theorem in2_2 {α0:Sort u0}{α1:Sort u1}{A0 A1:α0→α1→Prop}(x0:α0)(x1:α1)(h0:A0 x0 x1)(h1:A1 x0 x1):∃x0 x1,A0 x0 x1∧A1 x0 x1:=⟨x0,x1,h0,h1⟩
theorem in2_3 {α0:Sort u0}{α1:Sort u1}{A0 A1 A2:α0→α1→Prop}(x0:α0)(x1:α1)(h0:A0 x0 x1)(h1:A1 x0 x1)(h2:A2 x0 x1):∃x0 x1,A0 x0 x1∧A1 x0 x1∧A2 x0 x1:=⟨x0,x1,h0,h1,h2⟩
theorem in2_4 {α0:Sort u0}{α1:Sort u1}{A0 A1 A2 A3:α0→α1→Prop}(x0:α0)(x1:α1)(h0:A0 x0 x1)(h1:A1 x0 x1)(h2:A2 x0 x1)(h3:A3 x0 x1):∃x0 x1,A0 x0 x1∧A1 x0 x1∧A2 x0 x1∧A3 x0 x1:=⟨x0,x1,h0,h1,h2,h3⟩
theorem in2_5 {α0:Sort u0}{α1:Sort u1}{A0 A1 A2 A3 A4:α0→α1→Prop}(x0:α0)(x1:α1)(h0:A0 x0 x1)(h1:A1 x0 x1)(h2:A2 x0 x1)(h3:A3 x0 x1)(h4:A4 x0 x1):∃x0 x1,A0 x0 x1∧A1 x0 x1∧A2 x0 x1∧A3 x0 x1∧A4 x0 x1:=⟨x0,x1,h0,h1,h2,h3,h4⟩
theorem in3_2 {α0:Sort u0}{α1:Sort u1}{α2:Sort u2}{A0 A1:α0→α1→α2→Prop}(x0:α0)(x1:α1)(x2:α2)(h0:A0 x0 x1 x2)(h1:A1 x0 x1 x2):∃x0 x1 x2,A0 x0 x1 x2∧A1 x0 x1 x2:=⟨x0,x1,x2,h0,h1⟩
theorem in3_3 {α0:Sort u0}{α1:Sort u1}{α2:Sort u2}{A0 A1 A2:α0→α1→α2→Prop}(x0:α0)(x1:α1)(x2:α2)(h0:A0 x0 x1 x2)(h1:A1 x0 x1 x2)(h2:A2 x0 x1 x2):∃x0 x1 x2,A0 x0 x1 x2∧A1 x0 x1 x2∧A2 x0 x1 x2:=⟨x0,x1,x2,h0,h1,h2⟩
theorem in3_4 {α0:Sort u0}{α1:Sort u1}{α2:Sort u2}{A0 A1 A2 A3:α0→α1→α2→Prop}(x0:α0)(x1:α1)(x2:α2)(h0:A0 x0 x1 x2)(h1:A1 x0 x1 x2)(h2:A2 x0 x1 x2)(h3:A3 x0 x1 x2):∃x0 x1 x2,A0 x0 x1 x2∧A1 x0 x1 x2∧A2 x0 x1 x2∧A3 x0 x1 x2:=⟨x0,x1,x2,h0,h1,h2,h3⟩
theorem in3_5 {α0:Sort u0}{α1:Sort u1}{α2:Sort u2}{A0 A1 A2 A3 A4:α0→α1→α2→Prop}(x0:α0)(x1:α1)(x2:α2)(h0:A0 x0 x1 x2)(h1:A1 x0 x1 x2)(h2:A2 x0 x1 x2)(h3:A3 x0 x1 x2)(h4:A4 x0 x1 x2):∃x0 x1 x2,A0 x0 x1 x2∧A1 x0 x1 x2∧A2 x0 x1 x2∧A3 x0 x1 x2∧A4 x0 x1 x2:=⟨x0,x1,x2,h0,h1,h2,h3,h4⟩
theorem in3_6 {α0:Sort u0}{α1:Sort u1}{α2:Sort u2}{A0 A1 A2 A3 A4 A5:α0→α1→α2→Prop}(x0:α0)(x1:α1)(x2:α2)(h0:A0 x0 x1 x2)(h1:A1 x0 x1 x2)(h2:A2 x0 x1 x2)(h3:A3 x0 x1 x2)(h4:A4 x0 x1 x2)(h5:A5 x0 x1 x2):∃x0 x1 x2,A0 x0 x1 x2∧A1 x0 x1 x2∧A2 x0 x1 x2∧A3 x0 x1 x2∧A4 x0 x1 x2∧A5 x0 x1 x2:=⟨x0,x1,x2,h0,h1,h2,h3,h4,h5⟩
theorem in3_7 {α0:Sort u0}{α1:Sort u1}{α2:Sort u2}{A0 A1 A2 A3 A4 A5 A6:α0→α1→α2→Prop}(x0:α0)(x1:α1)(x2:α2)(h0:A0 x0 x1 x2)(h1:A1 x0 x1 x2)(h2:A2 x0 x1 x2)(h3:A3 x0 x1 x2)(h4:A4 x0 x1 x2)(h5:A5 x0 x1 x2)(h6:A6 x0 x1 x2):∃x0 x1 x2,A0 x0 x1 x2∧A1 x0 x1 x2∧A2 x0 x1 x2∧A3 x0 x1 x2∧A4 x0 x1 x2∧A5 x0 x1 x2∧A6 x0 x1 x2:=⟨x0,x1,x2,h0,h1,h2,h3,h4,h5,h6⟩
theorem in3_8 {α0:Sort u0}{α1:Sort u1}{α2:Sort u2}{A0 A1 A2 A3 A4 A5 A6 A7:α0→α1→α2→Prop}(x0:α0)(x1:α1)(x2:α2)(h0:A0 x0 x1 x2)(h1:A1 x0 x1 x2)(h2:A2 x0 x1 x2)(h3:A3 x0 x1 x2)(h4:A4 x0 x1 x2)(h5:A5 x0 x1 x2)(h6:A6 x0 x1 x2)(h7:A7 x0 x1 x2):∃x0 x1 x2,A0 x0 x1 x2∧A1 x0 x1 x2∧A2 x0 x1 x2∧A3 x0 x1 x2∧A4 x0 x1 x2∧A5 x0 x1 x2∧A6 x0 x1 x2∧A7 x0 x1 x2:=⟨x0,x1,x2,h0,h1,h2,h3,h4,h5,h6,h7⟩
theorem in3_10 {α0:Sort u0}{α1:Sort u1}{α2:Sort u2}{A0 A1 A2 A3 A4 A5 A6 A7 A8 A9:α0→α1→α2→Prop}(x0:α0)(x1:α1)(x2:α2)(h0:A0 x0 x1 x2)(h1:A1 x0 x1 x2)(h2:A2 x0 x1 x2)(h3:A3 x0 x1 x2)(h4:A4 x0 x1 x2)(h5:A5 x0 x1 x2)(h6:A6 x0 x1 x2)(h7:A7 x0 x1 x2)(h8:A8 x0 x1 x2)(h9:A9 x0 x1 x2):∃x0 x1 x2,A0 x0 x1 x2∧A1 x0 x1 x2∧A2 x0 x1 x2∧A3 x0 x1 x2∧A4 x0 x1 x2∧A5 x0 x1 x2∧A6 x0 x1 x2∧A7 x0 x1 x2∧A8 x0 x1 x2∧A9 x0 x1 x2:=⟨x0,x1,x2,h0,h1,h2,h3,h4,h5,h6,h7,h8,h9⟩
theorem in4_3 {α0:Sort u0}{α1:Sort u1}{α2:Sort u2}{α3:Sort u3}{A0 A1 A2:α0→α1→α2→α3→Prop}(x0:α0)(x1:α1)(x2:α2)(x3:α3)(h0:A0 x0 x1 x2 x3)(h1:A1 x0 x1 x2 x3)(h2:A2 x0 x1 x2 x3):∃x0 x1 x2 x3,A0 x0 x1 x2 x3∧A1 x0 x1 x2 x3∧A2 x0 x1 x2 x3:=⟨x0,x1,x2,x3,h0,h1,h2⟩
theorem in4_4 {α0:Sort u0}{α1:Sort u1}{α2:Sort u2}{α3:Sort u3}{A0 A1 A2 A3:α0→α1→α2→α3→Prop}(x0:α0)(x1:α1)(x2:α2)(x3:α3)(h0:A0 x0 x1 x2 x3)(h1:A1 x0 x1 x2 x3)(h2:A2 x0 x1 x2 x3)(h3:A3 x0 x1 x2 x3):∃x0 x1 x2 x3,A0 x0 x1 x2 x3∧A1 x0 x1 x2 x3∧A2 x0 x1 x2 x3∧A3 x0 x1 x2 x3:=⟨x0,x1,x2,x3,h0,h1,h2,h3⟩
theorem in4_6 {α0:Sort u0}{α1:Sort u1}{α2:Sort u2}{α3:Sort u3}{A0 A1 A2 A3 A4 A5:α0→α1→α2→α3→Prop}(x0:α0)(x1:α1)(x2:α2)(x3:α3)(h0:A0 x0 x1 x2 x3)(h1:A1 x0 x1 x2 x3)(h2:A2 x0 x1 x2 x3)(h3:A3 x0 x1 x2 x3)(h4:A4 x0 x1 x2 x3)(h5:A5 x0 x1 x2 x3):∃x0 x1 x2 x3,A0 x0 x1 x2 x3∧A1 x0 x1 x2 x3∧A2 x0 x1 x2 x3∧A3 x0 x1 x2 x3∧A4 x0 x1 x2 x3∧A5 x0 x1 x2 x3:=⟨x0,x1,x2,x3,h0,h1,h2,h3,h4,h5⟩
theorem in4_7 {α0:Sort u0}{α1:Sort u1}{α2:Sort u2}{α3:Sort u3}{A0 A1 A2 A3 A4 A5 A6:α0→α1→α2→α3→Prop}(x0:α0)(x1:α1)(x2:α2)(x3:α3)(h0:A0 x0 x1 x2 x3)(h1:A1 x0 x1 x2 x3)(h2:A2 x0 x1 x2 x3)(h3:A3 x0 x1 x2 x3)(h4:A4 x0 x1 x2 x3)(h5:A5 x0 x1 x2 x3)(h6:A6 x0 x1 x2 x3):∃x0 x1 x2 x3,A0 x0 x1 x2 x3∧A1 x0 x1 x2 x3∧A2 x0 x1 x2 x3∧A3 x0 x1 x2 x3∧A4 x0 x1 x2 x3∧A5 x0 x1 x2 x3∧A6 x0 x1 x2 x3:=⟨x0,x1,x2,x3,h0,h1,h2,h3,h4,h5,h6⟩
theorem in4_8 {α0:Sort u0}{α1:Sort u1}{α2:Sort u2}{α3:Sort u3}{A0 A1 A2 A3 A4 A5 A6 A7:α0→α1→α2→α3→Prop}(x0:α0)(x1:α1)(x2:α2)(x3:α3)(h0:A0 x0 x1 x2 x3)(h1:A1 x0 x1 x2 x3)(h2:A2 x0 x1 x2 x3)(h3:A3 x0 x1 x2 x3)(h4:A4 x0 x1 x2 x3)(h5:A5 x0 x1 x2 x3)(h6:A6 x0 x1 x2 x3)(h7:A7 x0 x1 x2 x3):∃x0 x1 x2 x3,A0 x0 x1 x2 x3∧A1 x0 x1 x2 x3∧A2 x0 x1 x2 x3∧A3 x0 x1 x2 x3∧A4 x0 x1 x2 x3∧A5 x0 x1 x2 x3∧A6 x0 x1 x2 x3∧A7 x0 x1 x2 x3:=⟨x0,x1,x2,x3,h0,h1,h2,h3,h4,h5,h6,h7⟩
theorem in4_9 {α0:Sort u0}{α1:Sort u1}{α2:Sort u2}{α3:Sort u3}{A0 A1 A2 A3 A4 A5 A6 A7 A8:α0→α1→α2→α3→Prop}(x0:α0)(x1:α1)(x2:α2)(x3:α3)(h0:A0 x0 x1 x2 x3)(h1:A1 x0 x1 x2 x3)(h2:A2 x0 x1 x2 x3)(h3:A3 x0 x1 x2 x3)(h4:A4 x0 x1 x2 x3)(h5:A5 x0 x1 x2 x3)(h6:A6 x0 x1 x2 x3)(h7:A7 x0 x1 x2 x3)(h8:A8 x0 x1 x2 x3):∃x0 x1 x2 x3,A0 x0 x1 x2 x3∧A1 x0 x1 x2 x3∧A2 x0 x1 x2 x3∧A3 x0 x1 x2 x3∧A4 x0 x1 x2 x3∧A5 x0 x1 x2 x3∧A6 x0 x1 x2 x3∧A7 x0 x1 x2 x3∧A8 x0 x1 x2 x3:=⟨x0,x1,x2,x3,h0,h1,h2,h3,h4,h5,h6,h7,h8⟩
theorem in4_10 {α0:Sort u0}{α1:Sort u1}{α2:Sort u2}{α3:Sort u3}{A0 A1 A2 A3 A4 A5 A6 A7 A8 A9:α0→α1→α2→α3→Prop}(x0:α0)(x1:α1)(x2:α2)(x3:α3)(h0:A0 x0 x1 x2 x3)(h1:A1 x0 x1 x2 x3)(h2:A2 x0 x1 x2 x3)(h3:A3 x0 x1 x2 x3)(h4:A4 x0 x1 x2 x3)(h5:A5 x0 x1 x2 x3)(h6:A6 x0 x1 x2 x3)(h7:A7 x0 x1 x2 x3)(h8:A8 x0 x1 x2 x3)(h9:A9 x0 x1 x2 x3):∃x0 x1 x2 x3,A0 x0 x1 x2 x3∧A1 x0 x1 x2 x3∧A2 x0 x1 x2 x3∧A3 x0 x1 x2 x3∧A4 x0 x1 x2 x3∧A5 x0 x1 x2 x3∧A6 x0 x1 x2 x3∧A7 x0 x1 x2 x3∧A8 x0 x1 x2 x3∧A9 x0 x1 x2 x3:=⟨x0,x1,x2,x3,h0,h1,h2,h3,h4,h5,h6,h7,h8,h9⟩
theorem in6_7 {α0:Sort u0}{α1:Sort u1}{α2:Sort u2}{α3:Sort u3}{α4:Sort u4}{α5:Sort u5}{A0 A1 A2 A3 A4 A5 A6:α0→α1→α2→α3→α4→α5→Prop}(x0:α0)(x1:α1)(x2:α2)(x3:α3)(x4:α4)(x5:α5)(h0:A0 x0 x1 x2 x3 x4 x5)(h1:A1 x0 x1 x2 x3 x4 x5)(h2:A2 x0 x1 x2 x3 x4 x5)(h3:A3 x0 x1 x2 x3 x4 x5)(h4:A4 x0 x1 x2 x3 x4 x5)(h5:A5 x0 x1 x2 x3 x4 x5)(h6:A6 x0 x1 x2 x3 x4 x5):∃x0 x1 x2 x3 x4 x5,A0 x0 x1 x2 x3 x4 x5∧A1 x0 x1 x2 x3 x4 x5∧A2 x0 x1 x2 x3 x4 x5∧A3 x0 x1 x2 x3 x4 x5∧A4 x0 x1 x2 x3 x4 x5∧A5 x0 x1 x2 x3 x4 x5∧A6 x0 x1 x2 x3 x4 x5:=⟨x0,x1,x2,x3,x4,x5,h0,h1,h2,h3,h4,h5,h6⟩
theorem in7_7 {α0:Sort u0}{α1:Sort u1}{α2:Sort u2}{α3:Sort u3}{α4:Sort u4}{α5:Sort u5}{α6:Sort u6}{A0 A1 A2 A3 A4 A5 A6:α0→α1→α2→α3→α4→α5→α6→Prop}(x0:α0)(x1:α1)(x2:α2)(x3:α3)(x4:α4)(x5:α5)(x6:α6)(h0:A0 x0 x1 x2 x3 x4 x5 x6)(h1:A1 x0 x1 x2 x3 x4 x5 x6)(h2:A2 x0 x1 x2 x3 x4 x5 x6)(h3:A3 x0 x1 x2 x3 x4 x5 x6)(h4:A4 x0 x1 x2 x3 x4 x5 x6)(h5:A5 x0 x1 x2 x3 x4 x5 x6)(h6:A6 x0 x1 x2 x3 x4 x5 x6):∃x0 x1 x2 x3 x4 x5 x6,A0 x0 x1 x2 x3 x4 x5 x6∧A1 x0 x1 x2 x3 x4 x5 x6∧A2 x0 x1 x2 x3 x4 x5 x6∧A3 x0 x1 x2 x3 x4 x5 x6∧A4 x0 x1 x2 x3 x4 x5 x6∧A5 x0 x1 x2 x3 x4 x5 x6∧A6 x0 x1 x2 x3 x4 x5 x6:=⟨x0,x1,x2,x3,x4,x5,x6,h0,h1,h2,h3,h4,h5,h6⟩
theorem nsome {α:Type u0}{a:α}{P:Prop}(h:none=some a):P:=by cases h
theorem spi {α:Type u0}{c:Prop} [Decidable c]{a b r:α}{P:Prop}(h:(if c then a else b)=r)(k1:c→a=r→P)(k2:¬ c→b=r→P):P:=by
  by_cases q:c
  · exact k1 q (by rwa [if_pos q] at h)
  · exact k2 q (by rwa [if_neg q] at h)
theorem gif {α:Type u0}{c:Prop} [Decidable c]{a:Option α}{r:α}{P:Prop}(h:(if c then a else none)=some r)(k:c→a=some r→P):P:=
  spi h k fun _ h=>nsome h
theorem gmap {α:Type u0}{β:Type u1}{m:Option α}{f:α→β}{r:β}{P:Prop}(h:m.map f=some r)(k:∀a,m=some a→f a=r→P):P:=by
  cases m with
  | none=>exact nsome h
  | some p=>exact k p rfl (Option.some.inj h)
@[elab_as_elim] theorem spair {α:Type u0}{β:Type u1}{a c:α}{b d:β}{motive:α→β→Prop}(h:some (a,b)=some (c,d))(k:motive a b):motive c d:=by
  cases h; exact k
@[elab_as_elim] theorem strip {α:Type u0}{β:Type u1}{γ:Type u2}{a c:α}{b d:β}{e f:γ}{motive:α→β→γ→Prop}(h:some (a,b,e)=some (c,d,f))(k:motive a b e):motive c d f:=by
  cases h; exact k
theorem rwp {α:Sort u0}{a b:α}{P:α→Prop}(h:a=b)(k:P a):P b:=h▸k
theorem pinj {α:Type u0}{β:Type u1}{a c:α}{b d:β}(h:some (a,b)=some (c,d)):a=c∧b=d:=spair (motive:=fun c d=>a=c∧b=d) h ⟨rfl,rfl⟩

end Mine
open Lean in
local macro_rules
  | `(tactic| obtain ⟨$ps,*⟩ := $e:term) => do
    let mut ids : Array (TSyntax `ident) := #[]
    let mut later : Array (TSyntax `tactic) := #[]
    let mut cut := 0
    for p in ps.getElems do
      if ids.size == 3 then cut := later.size
      let x ← withFreshMacroScope `(hx)
      let x : TSyntax `ident := ⟨x.raw⟩
      match p with
      | `(Lean.Parser.Tactic.rcasesPatLo| $y:ident) =>
        if y.getId == `rfl then
          ids := ids.push x
          later := later.push (← `(tactic| subst $x))
        else ids := ids.push y
      | `(Lean.Parser.Tactic.rcasesPatLo| _) => ids := ids.push x
      | `(Lean.Parser.Tactic.rcasesPatLo| $q:rcasesPatMed) =>
        ids := ids.push x
        later := later.push (← `(tactic| obtain $q:rcasesPatMed := $x:ident))
      | _ => Macro.throwUnsupported
    let n := ids.size
    if n < 2 then Macro.throwUnsupported
    let mut ts : Array (TSyntax `tactic) := #[]
    for k in [0:7] do
      let m := n - k
      if k < n && m ≤ 17 && !(k == 0 && m < 2) then
        let l := mkIdent (Name.mkSimple "Mine" ++ Name.mkSimple s!"el{k}_{m}")
        if e.raw.isIdent then
          let h : TSyntax `ident := ⟨e.raw⟩
          ts := ts.push (← `(tactic| (refine $l $e ?_; (try clear $h:ident); intro $[$ids:ident]*; $[$later:tactic];*)))
        else ts := ts.push (← `(tactic| (refine $l $e fun $ids* => ?_; $[$later:tactic];*)))
    if n > 5 then
      let pa := ps.getElems
      let x : TSyntax `ident := ⟨(← withFreshMacroScope `(hx)).raw⟩
      let qs := pa.extract 3 n
      let idc := (ids.extract 0 3).push x
      let lat := later.extract 0 cut
      if e.raw.isIdent then
        let h : TSyntax `ident := ⟨e.raw⟩
        ts := ts.push (← `(tactic| (refine Mine.el2_2 $e ?_; (try clear $h:ident); intro $[$idc:ident]*; $[$lat:tactic];*; obtain ⟨$qs,*⟩ := $x:ident)))
      else ts := ts.push (← `(tactic| (refine Mine.el2_2 $e fun $idc* => ?_; $[$lat:tactic];*; obtain ⟨$qs,*⟩ := $x:ident)))
    ts := ts.push (← `(tactic| rcases $e:term with ⟨$ps,*⟩))
    `(tactic| first $[| $ts:tactic]*)
local macro_rules
  | `(tactic| omega) => `(tactic| lia)
local macro_rules
  | `(tactic| split at $h:ident) => `(tactic| (refine Mine.spi $h ?ka ?kb; case' kb => (clear $h; intro _ $h:ident); case' ka => (clear $h; intro _ $h:ident)))
local macro_rules
  | `(tactic| cases $h:ident) => `(tactic| exact Mine.nsome $h)
open Lean in
local macro_rules
  | `(tactic| refine ⟨$as,*⟩) => do
    let a := as.getElems
    let n := a.size
    if n < 3 then Macro.throwUnsupported
    let mut ts : Array (TSyntax `tactic) := #[]
    for k in [0:8] do
      let m := n - k
      if k < n && m ≤ 17 && !(k == 0 && m < 3) then
        let l := mkIdent (Name.mkSimple "Mine" ++ Name.mkSimple s!"in{k}_{m}")
        ts := ts.push (← `(tactic| refine $l $a*))
    ts := ts.push (← `(tactic| fail))
    `(tactic| first $[| $ts:tactic]*)
open Lean in
local macro_rules
  | `(tactic| exact ⟨$as,*⟩) => do
    let a := as.getElems
    let n := a.size
    if n < 3 then Macro.throwUnsupported
    let mut ts : Array (TSyntax `tactic) := #[]
    for k in [0:8] do
      let m := n - k
      if k < n && m ≤ 17 && !(k == 0 && m < 3) then
        let l := mkIdent (Name.mkSimple "Mine" ++ Name.mkSimple s!"in{k}_{m}")
        ts := ts.push (← `(tactic| exact $l $a*))
    ts := ts.push (← `(tactic| fail))
    `(tactic| first $[| $ts:tactic]*)
namespace Mine
open scoped Classical
open PySem
inductive SV where
  | none
  | bool (b:Bool)
  | int (i:Int)
  | str (s:String)
  | tup (xs:List SV)
  | loc (l:Nat)
  deriving Inhabited
inductive SObj where
  | list (xs:List SV)
  | dict (kvs:List (SV×SV)) (ver:Nat)
  | inst (cls:String) (fields:List (String×SV))
  deriving Inhabited
abbrev Hp:=List SObj
abbrev Rho:=List (String×SV)
noncomputable def Rho.put:Rho→String→SV→Rho
  | [],x,v=> [(x,v)]
  | (y,w)::r,x,v=>if y=x then(x,v)::r else(y,w)::Rho.put r x v
noncomputable def lim:Nat:=100000
abbrev Ev:=Rho→Hp→Option (SV×Hp)
abbrev Tv:=Rho→Hp→Option (Bool×Hp)
abbrev Fn:=List SV→Hp→Option (SV×Hp)
inductive Flw where
  | next
  | ret (v:SV)
  deriving Inhabited
abbrev Ex:=Rho→Hp→Option (Flw×Rho×Hp)
abbrev Src:=Rho→Hp→Option ((List SV×Option (Nat×SObj))×Hp)
mutual
noncomputable def SV.isKeyD:Nat→SV→Bool
  | _,.int _=>true
  | _,.str _=>true
  | n,.tup xs=>(match n with | 0=>false | n+1=>SV.areKeysD n xs)
  | _,.none=>false
  | _,.bool _=>false
  | _,.loc _=>false
termination_by structural _ x=>x
noncomputable def SV.areKeysD:Nat→List SV→Bool
  | _, []=>true
  | n,x::xs=>SV.isKeyD n x&&SV.areKeysD n xs
termination_by structural _ xs=>xs
end
noncomputable def DD:Nat:=6
noncomputable def SV.isTupKey:SV→Bool
  | .tup xs=>SV.areKeysD DD xs
  | _=>false
noncomputable def SV.isInt:SV→Bool
  | .int _=>true
  | _=>false
noncomputable def SV.isScal:SV→Bool
  | .none=>true
  | .bool _=>true
  | .int _=>true
  | _=>false
noncomputable def SV.isNone:SV→Bool
  | .none=>true
  | _=>false
theorem MK {v:SV}(h:v.isNone=true):v= .none:=by
  cases v with
  | none=>rfl
  | _=>exact nomatch h
mutual
noncomputable def SV.isTree:SV→Bool
  | .tup (.str _::ks)=>SV.areTrees ks
  | _=>false
noncomputable def SV.areTrees:List SV→Bool
  | []=>true
  | x::xs=>x.isTree&&SV.areTrees xs
end
noncomputable def LX {α β γ:Type}(f:α→β→γ):Option α→Option β→Option γ
  | some x,some y=>some (f x y)
  | some _,none=>none
  | none,_=>none
noncomputable def SW (f:SV→Option PyData):List SV→Option (List PyData)
  | []=>some []
  | x::xs=>LX List.cons (f x) (SW f xs)
noncomputable def BV:Nat→Hp→SV→Option PyData
  | 0,_,x=>match x with
    | .none=>some .none
    | .bool b=>some (.bool b)
    | .int i=>some (.int i)
    | .str s=>some (.str (Str.ofString s))
    | .tup _=>none
    | .loc _=>none
  | n+1,σ,x=>match x with
    | .none=>some .none
    | .bool b=>some (.bool b)
    | .int i=>some (.int i)
    | .str s=>some (.str (Str.ofString s))
    | .tup xs=>(SW (BV n σ) xs).map .tuple
    | .loc l=>match σ[l]? with
      | some (.list xs)=>(SW (BV n σ) xs).map .list
      | _=>none
noncomputable abbrev Dv (n:Nat)(σ:Hp):List SV→Option (List PyData):=SW (BV n σ)
theorem OK {n:Nat}{σ:Hp}:BV n σ .none=some .none:=by cases n <;> rfl
theorem OL {n:Nat}{σ:Hp}{b:Bool}:BV n σ (.bool b)=some (.bool b):=by cases n <;> rfl
theorem Gr {n:Nat}{σ:Hp}{i:Int}:BV n σ (.int i)=some (.int i):=by cases n <;> rfl
theorem LY {n:Nat}{σ:Hp}{x:String}:BV n σ (.str x)=some (.str (Str.ofString x)):=by cases n <;> rfl
theorem Vm {n:Nat}{σ:Hp}{xs:List SV}:BV (n+1) σ (.tup xs)=(Dv n σ xs).map .tuple:=rfl
theorem Id {n:Nat}{σ:Hp}:Dv n σ []=some []:=rfl
theorem CA {n:Nat}{σ:Hp}{x:SV}{xs:List SV}{d:PyData}{ds:List PyData}(h:BV n σ x=some d)(hs:Dv n σ xs=some ds):Dv n σ (x::xs)=some (d::ds):=by
  show LX List.cons (BV n σ x) (Dv n σ xs)=_
  rw[h,hs]; rfl
theorem LZ {α β γ:Type}{a:Option α}{b:Option β}{f:α→β→γ}{r:γ}{P:Prop}(h:LX f a b=some r)(k:∀x y,a=some x→b=some y→f x y=r→P):P:=by
  cases a with
  | none=>exact nomatch h
  | some x=>
    cases b with
    | none=>exact nomatch h
    | some y=>exact k x y rfl rfl (Option.some.inj h)
theorem OM {n:Nat}{σ:Hp}{x:SV}{xs:List SV}{r:List PyData}{P:Prop}(h:Dv n σ (x::xs)=some r)(k:∀d ds,BV n σ x=some d→Dv n σ xs=some ds→d::ds=r→P):P:=LZ h k
theorem J7 {n:Nat}{σ:Hp}{l:Nat}{d:PyData}{P:Prop}(h:BV n σ (.loc l)=some d)(k:∀m xs ds,n=m+1→σ[l]? =some (.list xs)→Dv m σ xs=some ds→d= .list ds→P):P:=by
  cases n with
  | zero=>exact nomatch h
  | succ n=>
    replace h:(match σ[l]? with | some (.list xs)=>(Dv n σ xs).map PyData.list | _=>none)=some d:=h
    cases e:σ[l]? with
    | none=>rw[e] at h; exact nomatch h
    | some o=>
      rw[e] at h
      cases o with
      | list xs=>exact(Option.map_eq_some_iff.mp h).elim fun ds q=>k n xs ds rfl e q.1 q.2.symm
      | _=>exact nomatch h
theorem J8 {n:Nat}{σ:Hp}{xs:List SV}{d:PyData}{P:Prop}(h:BV n σ (.tup xs)=some d)(k:∀m ds,n=m+1→Dv m σ xs=some ds→d= .tuple ds→P):P:=by
  cases n with
  | zero=>exact nomatch h
  | succ n=>obtain⟨ds,h1,h2⟩:=Option.map_eq_some_iff.mp h; exact k n ds rfl h1 h2.symm
noncomputable def Cs:Nat:=12
noncomputable def EW (σ:Hp)(a b:SV):Option Bool:=LX PyData.eqv (BV Cs σ a) (BV Cs σ b)
theorem L5 {σ:Hp}{x y:SV}{b:Bool}{P:Prop}(h:EW σ x y=some b)(k:∀d e,BV Cs σ x=some d→BV Cs σ y=some e→PyData.eqv d e=b→P):P:=LZ h k
noncomputable def Cb (s:String):List Nat:=s.toList.map Char.toNat
noncomputable def AU:List Nat→List Nat→Ordering
  | [], []=> .eq
  | [],_::_=> .lt
  | _::_, []=> .gt
  | x::xs,y::ys=>if x<y then .lt else if y<x then .gt else AU xs ys
mutual
noncomputable def C3:SV→SV→Ordering
  | .int a,.int b=>if a<b then .lt else if b<a then .gt else .eq
  | .str a,.str b=>AU (Cb a) (Cb b)
  | .tup a,.tup b=>Bp a b
  | .int _,_=> .lt
  | _,.int _=> .gt
  | .str _,_=> .lt
  | _,.str _=> .gt
  | _,_=> .eq
noncomputable def Bp:List SV→List SV→Ordering
  | [], []=> .eq
  | [],_::_=> .lt
  | _::_, []=> .gt
  | x::xs,y::ys=>match C3 x y with
    | .lt=> .lt
    | .gt=> .gt
    | .eq=>Bp xs ys
end
noncomputable def DK (a b:SV):Bool:=C3 a b == .lt
noncomputable def GK (x:SV):List SV→List SV
  | []=> [x]
  | y::ys=>if DK x y then x::y::ys else y::GK x ys
noncomputable def AS:List SV→List SV
  | []=> []
  | x::xs=>GK x (AS xs)
noncomputable def EX (xs:List SV):Bool:=decide (xs.length<64)&&(xs.all SV.isInt || xs.all fun x=>x.isTree&&x.isTupKey)
noncomputable def newObj (o:SObj)(σ:Hp):Option (SV×Hp):=some (.loc σ.length,σ ++ [o])
noncomputable def bnd {α β γ:Type}(m:Option (α×β))(F:α→β→Option γ):Option γ:=
  match m with
  | some (a,b)=>F a b
  | none=>none
noncomputable def BP {α γ:Type}(m:Option α)(F:α→Option γ):Option γ:=
  match m with
  | some a=>F a
  | none=>none
noncomputable def Co {α:Type}(v:SV)(σ:Hp)(F:Nat→List SV→Option α):Option α:=
  match v with
  | .loc l=>match σ[l]? with
    | some (.list xs)=>F l xs
    | _=>none
  | _=>none
noncomputable def J9 {α:Type}(v:SV)(σ:Hp)(F:Nat→List (SV×SV)→Nat→Option α):Option α:=
  match v with
  | .loc l=>match σ[l]? with
    | some (.dict kvs n)=>F l kvs n
    | _=>none
  | _=>none
noncomputable def ML {α:Type}(v:SV)(σ:Hp)(F:Nat→String→List (String×SV)→Option α):Option α:=
  match v with
  | .loc l=>match σ[l]? with
    | some (.inst c fs)=>F l c fs
    | _=>none
  | _=>none
section
variable {α β γ:Type}{r:γ}{P:Prop}
theorem AY {m:Option (α×β)}{F:α→β→Option γ}(h:bnd m F=some r)(k:∀v s,m=some (v,s)→F v s=some r→P):P:=by
  cases m with
  | none=>exact nomatch h
  | some p=>exact k p.1 p.2 rfl h
theorem CH {m:Option α}{F:α→Option γ}(h:BP m F=some r)(k:∀v,m=some v→F v=some r→P):P:=by
  cases m with
  | none=>exact nomatch h
  | some p=>exact k p rfl h
theorem B7 {v:SV}{σ:Hp}{F:Nat→List SV→Option γ}(h:Co v σ F=some r)(k:∀l xs,v= .loc l→σ[l]? =some (.list xs)→F l xs=some r→P):P:=by
  cases v with
  | loc l=>
    replace h:(match σ[l]? with | some (.list xs)=>F l xs | _=>none)=some r:=h
    cases e:σ[l]? with
    | none=>rw[e] at h; exact nomatch h
    | some o=>
      rw[e] at h
      cases o with
      | list xs=>exact k l xs rfl e h
      | _=>exact nomatch h
  | _=>exact nomatch h
theorem Jp {v:SV}{σ:Hp}{F:Nat→List (SV×SV)→Nat→Option γ}(h:J9 v σ F=some r)(k:∀l kvs n,v= .loc l→σ[l]? =some (.dict kvs n)→F l kvs n=some r→P):P:=by
  cases v with
  | loc l=>
    replace h:(match σ[l]? with | some (.dict kvs n)=>F l kvs n | _=>none)=some r:=h
    cases e:σ[l]? with
    | none=>rw[e] at h; exact nomatch h
    | some o=>
      rw[e] at h
      cases o with
      | dict kvs n=>exact k l kvs n rfl e h
      | _=>exact nomatch h
  | _=>exact nomatch h
theorem MM {v:SV}{σ:Hp}{F:Nat→String→List (String×SV)→Option γ}(h:ML v σ F=some r)(k:∀l c fs,v= .loc l→σ[l]? =some (.inst c fs)→F l c fs=some r→P):P:=by
  cases v with
  | loc l=>
    replace h:(match σ[l]? with | some (.inst c fs)=>F l c fs | _=>none)=some r:=h
    cases e:σ[l]? with
    | none=>rw[e] at h; exact nomatch h
    | some o=>
      rw[e] at h
      cases o with
      | inst c fs=>exact k l c fs rfl e h
      | _=>exact nomatch h
  | _=>exact nomatch h
end
noncomputable def Ag (v:SV):Ev:=fun _ σ=>some (v,σ)
noncomputable def Ab (x:String):Ev:=fun ρ σ=>(ρ.lookup x).map fun v=>(v,σ)
noncomputable def Ea (e:Ev)(f:SV→Hp→Option (SV×Hp)):Ev:=fun ρ σ=>bnd (e ρ σ) f
noncomputable def Ka (e1 e2:Ev)(f:SV→SV→Hp→Option (SV×Hp)):Ev:=fun ρ σ=>bnd (e1 ρ σ) fun v1 σ1=>bnd (e2 ρ σ1) fun v2 σ₂=>f v1 v2 σ₂
noncomputable def evs:List Ev→Rho→Hp→Option (List SV×Hp)
  | [],_,σ=>some ([],σ)
  | e::es,ρ,σ=>bnd (e ρ σ) fun v σ1=>bnd (evs es ρ σ1) fun vs σ₂=>some (v::vs,σ₂)
noncomputable def Wm (c f:String)(v:SV)(σ:Hp):Option (SV×Hp):=
  ML v σ fun _ c' fs=>if c'=c then(fs.lookup f).map fun x=>(x,σ) else none
noncomputable def Aq (c:String)(e:Ev)(f:String):Ev:=Ea e (Wm c f)
inductive Op where
  | add | sub | mul | mod
  deriving DecidableEq
noncomputable def P7:Op→Int→Int→Option Int
  | .add,a,b=>some (a+b)
  | .sub,a,b=>some (a-b)
  | .mul,a,b=>if a.natAbs<2^60∧b.natAbs<2^60 then some (a*b) else none
  | .mod,a,b=>if 0<b then some (a % b) else none
noncomputable def DQ:SV→Option Int
  | .int i=>some i
  | _=>none
noncomputable def SX:SV→Option (List SV)
  | .tup xs=>some xs
  | _=>none
theorem Ep {v:SV}{i:Int}(h:DQ v=some i):v= .int i:=by
  cases v with
  | int j=>exact congrArg _ (Option.some.inj h)
  | _=>exact nomatch h
theorem ON {v:SV}{xs:List SV}(h:SX v=some xs):v= .tup xs:=by
  cases v with
  | tup j=>exact congrArg _ (Option.some.inj h)
  | _=>exact nomatch h
noncomputable def MN (o:Op)(a b:SV)(σ:Hp):Option (SV×Hp):=
  match a with
  | .int x=>BP (DQ b) fun y=>(P7 o x y).map fun z=>(.int z,σ)
  | .tup xs=>if o= .add then BP (SX b) fun ys=>if xs.length+ys.length<lim then some (.tup (xs++ys),σ) else none else none
  | .loc l=>if o= .add then Co (.loc l) σ fun _ xs=>Co b σ fun _ ys=>if xs.length+ys.length<lim then some (.loc σ.length,σ ++ [.list (xs++ys)]) else none else none
  | _=>none
noncomputable def eOp (o:Op)(a b:Ev):Ev:=Ka a b (MN o)
inductive Cmp where
  | eq | ne | lt | le | gt | isin | notin | is
  deriving DecidableEq
noncomputable def C9 (σ:Hp)(x:SV):List SV→Option Bool
  | []=>some false
  | y::ys=>LX or (EW σ y x) (C9 σ x ys)
theorem MO {σ:Hp}{x y:SV}{ys:List SV}{r:Bool}{P:Prop}(h:C9 σ x (y::ys)=some r)(k:∀b c,EW σ y x=some b→C9 σ x ys=some c→(b || c)=r→P):P:=LZ h k
noncomputable def Bz (k:SV)(kvs:List (SV×SV)):Bool:=
  (k.isInt&&kvs.all fun p=>p.1.isInt) || (k.isTupKey&&kvs.all fun p=>p.1.isTupKey)
noncomputable def P8 (x c:SV)(σ:Hp):Option Bool:=
  match c with
  | .loc l=>match σ[l]? with
    | some (.list xs)=>C9 σ x xs
    | some (.dict kvs _)=>if Bz x kvs then some ((kvs.lookup x).isSome) else none
    | _=>none
  | .str s=>match x with
    | .str y=>match y.toList with
      | [ch]=>some (s.toList.contains ch)
      | _=>none
    | _=>none
  | _=>none
noncomputable def Cp (o:Cmp)(a b:SV)(σ:Hp):Option Bool:=
  match o with
  | .eq=>EW σ a b
  | .ne=>(EW σ a b).map (!·)
  | .lt=>BP (DQ a) fun x=>BP (DQ b) fun y=>some (decide (x<y))
  | .le=>BP (DQ a) fun x=>BP (DQ b) fun y=>some (decide (x≤y))
  | .gt=>BP (DQ a) fun x=>BP (DQ b) fun y=>some (decide (y<x))
  | .isin=>P8 a b σ
  | .notin=>(P8 a b σ).map (!·)
  | .is=>if b.isNone then(match a with | .none=>some true | .tup _=>some false | _=>none) else none
noncomputable def AM (o:Cmp)(a b:Ev):Ev:=Ka a b fun x y σ=>(Cp o x y σ).map fun r=>(.bool r,σ)
noncomputable def Kb (o1 o2:Cmp)(a b c:Ev):Ev:=fun ρ σ=>
  bnd (a ρ σ) fun x σ1=>bnd (b ρ σ1) fun y σ₂=>BP (Cp o1 x y σ₂) fun t=>cond t (bnd (c ρ σ₂) fun z σ3=>(Cp o2 y z σ3).map fun r=>(.bool r,σ3)) (some (.bool false,σ₂))
noncomputable def IR:SV→Option Bool
  | .bool b=>some b
  | _=>none
theorem MP {v:SV}{b:Bool}(h:IR v=some b):v= .bool b:=by
  cases v with
  | bool c=>exact congrArg _ (Option.some.inj h)
  | _=>exact nomatch h
noncomputable def Qi (a b:Ev):Ev:=fun ρ σ=>
  bnd (a ρ σ) fun v σ1=>BP (IR v) fun t=>cond t (b ρ σ1) (some (.bool false,σ1))
noncomputable def AJ (e:Ev):Tv:=fun ρ σ=>
  bnd (e ρ σ) fun v σ'=>(IR v).map fun b=>(b,σ')
noncomputable def Jq (t:Tv):Tv:=fun ρ σ=>(t ρ σ).map fun p=>(!p.1,p.2)
noncomputable def Qj (a b:Tv):Tv:=fun ρ σ=>
  bnd (a ρ σ) fun t σ1=>cond t (b ρ σ1) (some (false,σ1))
noncomputable def tOr (a b:Tv):Tv:=fun ρ σ=>
  bnd (a ρ σ) fun t σ1=>cond t (some (true,σ1)) (b ρ σ1)
noncomputable def eIf (t:Tv)(a b:Ev):Ev:=fun ρ σ=>
  bnd (t ρ σ) fun t σ1=>cond t (a ρ σ1) (b ρ σ1)
noncomputable def Bw (es:List Ev):Ev:=fun ρ σ=>
  bnd (evs es ρ σ) fun vs σ'=>some (.tup vs,σ')
noncomputable def Cc (es:List Ev):Ev:=fun ρ σ=>
  bnd (evs es ρ σ) fun vs σ'=>newObj (.list vs) σ'
noncomputable def IS:Ev:=fun _ σ=>newObj (.dict [] 0) σ
noncomputable def Qk (k v:Ev):Ev:=Ka k v fun x y σ=>if x.isInt then newObj (.dict [(x,y)] 0) σ else none
noncomputable def idx? (xs:List SV)(i:Int):Option SV:=if 0≤i then xs[i.toNat]? else none
noncomputable def IT (o i:SV)(σ:Hp):Option (SV×Hp):=
  match o with
  | .tup xs=>BP (DQ i) fun i=>if i<1000 then(idx? xs i).map fun v=>(v,σ) else none
  | .str s=>BP (DQ i) fun i=>if 0≤i∧i<1000 then(s.toList[i.toNat]?).map fun c=>(.str (String.singleton c),σ) else none
  | .loc l=>match σ[l]? with
    | some (.list xs)=>BP (DQ i) fun i=>(idx? xs i).map fun v=>(v,σ)
    | some (.dict kvs _)=>if Bz i kvs then(kvs.lookup i).map fun v=>(v,σ) else none
    | _=>none
  | _=>none
noncomputable def Ap (o i:Ev):Ev:=Ka o i IT
noncomputable def ET (o:Ev)(k:Nat):Ev:=Ea o fun v σ=>
  match v with
  | .tup xs=>if k≤xs.length∧xs.length<lim then some (.tup (xs.drop k),σ) else none
  | _=>none
noncomputable def L7 (o:Ev):Ev:=Ea o fun v σ=>
  match v with
  | .tup xs=>if xs.length<lim then some (.tup xs.reverse,σ) else none
  | .loc l=>Co (.loc l) σ fun _ xs=>newObj (.list xs.reverse) σ
  | _=>none
noncomputable def Bj (f:Fn)(es:List Ev):Ev:=fun ρ σ=>
  bnd (evs es ρ σ) f
noncomputable def MQ (c name:String)(v:SV)(σ:Hp):Bool:=
  match v with
  | .loc l=>match σ[l]? with
    | some (.inst c' fs)=>c'=c&&(fs.lookup name).isNone
    | _=>false
  | _=>false
noncomputable def AB (c name:String)(f:Fn)(o:Ev)(es:List Ev):Ev:=fun ρ σ=>
  bnd (o ρ σ) fun x σ1=>if MQ c name x σ1 then bnd (evs es ρ σ1) fun vs σ₂=>f (x::vs) σ₂ else none
noncomputable def Iy (c:String)(f:Fn)(es:List Ev):Ev:=fun ρ σ=>
  bnd (evs es ρ σ) fun vs σ1=>bnd (f (.loc σ1.length::vs) (σ1 ++ [.inst c []])) fun v σ₂=>if v.isNone then some (.loc σ1.length,σ₂) else none
noncomputable def Ee (v:SV)(σ:Hp):Option (List SV):=
  match v with
  | .loc l=>match σ[l]? with
    | some (.list xs)=>some xs
    | some (.dict kvs _)=>some (kvs.map (·.1))
    | _=>none
  | _=>none
noncomputable def P9 (v:SV)(σ:Hp):Option Int:=
  match v with
  | .loc l=>match σ[l]? with
    | some (.list xs)=>some xs.length
    | some (.dict kvs _)=>some kvs.length
    | _=>none
  | _=>none
theorem Iz {v:SV}{σ:Hp}{xs:List SV}{P:Prop}(h:Ee v σ=some xs)(k1:∀l,v= .loc l→σ[l]? =some (.list xs)→P)(k2:∀l kvs ver,v= .loc l→σ[l]? =some (.dict kvs ver)→kvs.map (·.1)=xs→P):P:=by
  cases v with
  | loc l=>
    replace h:(match σ[l]? with | some (.list xs)=>some xs | some (.dict kvs _)=>some (kvs.map (·.1)) | _=>none)=some xs:=h
    cases e:σ[l]? with
    | none=>rw[e] at h; exact nomatch h
    | some o=>
      rw[e] at h
      cases o with
      | list ys=>exact k1 l rfl (e.trans (congrArg (fun z=>some (SObj.list z)) (Option.some.inj h)))
      | dict kvs ver=>exact k2 l kvs ver rfl e (Option.some.inj h)
      | inst _ _=>exact nomatch h
  | _=>exact nomatch h
theorem RB {v:SV}{σ:Hp}{n:Int}(h:P9 v σ=some n):∃xs,Ee v σ=some xs∧(xs.length:Int)=n:=by
  cases v with
  | loc l=>
    replace h:(match σ[l]? with | some (.list xs)=>some (xs.length:Int) | some (.dict kvs _)=>some (kvs.length:Int) | _=>none)=some n:=h
    show ∃xs,(match σ[l]? with | some (.list xs)=>some xs | some (.dict kvs _)=>some (kvs.map (·.1)) | _=>none)=some xs∧_
    cases e:σ[l]? with
    | none=>rw[e] at h; exact nomatch h
    | some o=>
      rw[e] at h
      cases o with
      | list ys=>exact⟨ys,rfl,Option.some.inj h⟩
      | dict kvs ver=>exact⟨_,rfl,(congrArg Nat.cast (List.length_map ..)).trans (Option.some.inj h)⟩
      | inst _ _=>exact nomatch h
  | _=>exact nomatch h
noncomputable def CD (e:Ev):Ev:=Ea e fun v σ=>(P9 v σ).map fun n=>(.int n,σ)
noncomputable def DA (e:Ev):Ev:=Ea e fun v σ=>
  BP (Ee v σ) fun xs=>if EX xs then newObj (.list (AS xs)) σ else none
noncomputable def Cr:List SV→List SV
  | []=> []
  | x::xs=>if xs.contains x then Cr xs else x::Cr xs
noncomputable def Jr (e:Ev):Ev:=Ea e fun v σ=>
  Co v σ fun _ xs=>if xs.all SV.isInt&&decide (xs.length≤2) then newObj (.list (AS (Cr xs))) σ else none
noncomputable def AW (kvs:List (SV×SV))(k v:SV):List (SV×SV):=
  match kvs with
  | []=> [(k,v)]
  | (k',v')::r=>if k'=k then(k',v)::r else(k',v')::AW r k v
noncomputable def dictSet (k v:SV)(kvs:List (SV×SV)):Option (List (SV×SV)):=
  if Bz k kvs&&kvs.length<lim then some (AW kvs k v) else none
noncomputable def MR:List SV→Option (SV×SV)
  | [a,b]=>some (a,b)
  | _=>none
theorem Kc {xs:List SV}{p:SV×SV}(h:MR xs=some p):xs= [p.1,p.2]:=by
  cases xs with
  | nil=>exact nomatch h
  | cons a r=>
    cases r with
    | nil=>exact nomatch h
    | cons b r=>
      cases r with
      | nil=>exact Option.some.inj h▸rfl
      | cons _ _=>exact nomatch h
noncomputable def Es:List SV→List (SV×SV)→Option (List (SV×SV))
  | [],d=>some d
  | p::ps,d=>BP (SX p) fun xs=>BP (MR xs) fun q=>if q.1.isTupKey then BP (dictSet q.1 q.2 d) fun d'=>Es ps d' else none
noncomputable def EK (e:Ev):Ev:=Ea e fun v σ=>
  Co v σ fun _ ps=>BP (Es ps []) fun kvs=>newObj (.dict kvs 0) σ
noncomputable def Gs (e:Ev):Ev:=Ea e fun v σ=>
  BP (Ee v σ) fun xs=>newObj (.list xs) σ
noncomputable def CL (e:Ev):Ev:=Ea e fun v σ=>
  match v with
  | .tup xs=>some (.tup xs,σ)
  | .loc l=>Co (.loc l) σ fun _ xs=>some (.tup xs,σ)
  | _=>none
noncomputable def ints?:List SV→Option (List Int)
  | []=>some []
  | .int i::xs=>(ints? xs).map (i:: ·)
  | _::_=>none
noncomputable def Vn (e:Ev):Ev:=Ea e fun v σ=>
  Co v σ fun _ xs=>(ints? xs).map fun ns=>(.int ns.sum,σ)
noncomputable def Qa:List Int→Option Int
  | []=>none
  | x::xs=>some (xs.foldl (fun a b=>if a<b then b else a) x)
noncomputable def Vo (e:Ev):Ev:=Ea e fun v σ=>
  Co v σ fun _ xs=>BP ((ints? xs).bind Qa) fun m=>some (.int m,σ)
noncomputable def E9:List Nat:= [9,10,11,12,13,28,29,30,31,32]
noncomputable def Ql (e:Ev):Ev:=Ea e fun v σ=>
  match v with
  | .str s=>match s.toList with
    | [c]=>if c.toNat<128 then some (.bool (E9.contains c.toNat),σ) else none
    | _=>none
  | _=>none
noncomputable def IU (v:SV)(σ:Hp):Bool:=
  match v with
  | .loc l=>match σ[l]? with
    | some (.list _)=>true
    | _=>false
  | _=>false
noncomputable def HB (v:SV)(σ:Hp):Bool:=
  match v with
  | .loc l=>match σ[l]? with
    | some (.dict _ _)=>true
    | _=>false
  | _=>false
theorem SY {x:SV}{σ:Hp}(e:IU x σ=true):∃l xs,x= .loc l∧σ[l]? =some (.list xs):=by
  cases x with
  | loc l=>
    replace e:(match σ[l]? with | some (.list _)=>true | _=>false)=true:=e
    cases h:σ[l]? with
    | none=>rw[h] at e; exact nomatch e
    | some o=>
      rw[h] at e
      cases o with
      | list xs=>exact⟨l,xs,rfl,h⟩
      | _=>exact nomatch e
  | _=>exact nomatch e
theorem SZ {x:SV}{σ:Hp}(e:HB x σ=true):∃l kvs ver,x= .loc l∧σ[l]? =some (.dict kvs ver):=by
  cases x with
  | loc l=>
    replace e:(match σ[l]? with | some (.dict _ _)=>true | _=>false)=true:=e
    cases h:σ[l]? with
    | none=>rw[h] at e; exact nomatch e
    | some o=>
      rw[h] at e
      cases o with
      | dict kvs ver=>exact⟨l,kvs,ver,rfl,h⟩
      | _=>exact nomatch e
  | _=>exact nomatch e
noncomputable def K6 (c:SV→Hp→Bool)(e1 e2:Ev)(f:SV→SV→Hp→Option (SV×Hp)):Ev:=fun ρ σ=>
  bnd (e1 ρ σ) fun v1 σ1=>if c v1 σ1 then bnd (e2 ρ σ1) fun v2 σ₂=>f v1 v2 σ₂ else none
noncomputable def Qm (o x:SV)(σ:Hp):Option (SV×Hp):=
  Co o σ fun l xs=>if xs.length<lim then some (.none,σ.set l (.list (xs ++ [x]))) else none
noncomputable def B6 (o x:Ev):Ev:=K6 IU o x Qm
noncomputable def Qn (o x:SV)(σ:Hp):Option (SV×Hp):=
  Co o σ fun l xs=>Co x σ fun r ys=>if l≠r∧xs.length+ys.length<lim then some (.none,σ.set l (.list (xs++ys))) else none
noncomputable def K9 (o x:Ev):Ev:=K6 IU o x Qn
noncomputable def Sl (o:SV)(σ:Hp):Option (SV×Hp):=
  Co o σ fun l xs=>BP xs.getLast? fun y=>some (y,σ.set l (.list xs.dropLast))
noncomputable def NW (o:Ev):Ev:=Ea o Sl
noncomputable def Ci (kvs:List (SV×SV))(k:SV):List (SV×SV):=
  match kvs with
  | []=> []
  | (k',v')::r=>if k'=k then r else(k',v')::Ci r k
noncomputable def Ue (o k:SV)(σ:Hp):Option (SV×Hp):=
  J9 o σ fun l kvs ver=>if k.isInt&&kvs.all (fun p=>p.1.isInt) then BP (kvs.lookup k) fun v=>some (v,σ.set l (.dict (Ci kvs k) (ver+1))) else none
noncomputable def NX (o k:Ev):Ev:=K6 HB o k Ue
noncomputable def MS (o k v:SV)(σ:Hp):Option (SV×Hp):=
  J9 o σ fun l kvs ver=>BP (dictSet k v kvs) fun kvs'=>match kvs.lookup k with
    | some v'=>some (v',σ)
    | none=>some (v,σ.set l (.dict kvs' (ver+1)))
noncomputable def GL (o k v:Ev):Ev:=fun ρ σ=>
  bnd (o ρ σ) fun x σ1=>if HB x σ1 then bnd (k ρ σ1) fun y σ₂=>bnd (v ρ σ₂) fun z σ3=>if y.isTupKey then MS x y z σ3 else none else none
noncomputable def Cj (c:Option (Nat×SObj))(σ:Hp):Bool:=
  match c with
  | none=>true
  | some (l,o)=>decide (σ[l]? =some o)
noncomputable def MT (v:SV)(σ:Hp):Option (List SV×Option (Nat×SObj)):=
  match v with
  | .tup xs=>if xs.length<lim then some (xs,none) else none
  | .str s=>if s.toList.length<100∧(s.toList.all fun c=>decide (c.toNat<128))=true then some (s.toList.map fun c=> .str (String.singleton c),none) else none
  | .loc l=>match σ[l]? with
    | some (.list xs)=>some (xs,some (l,.list xs))
    | some (.dict kvs ver)=>some (kvs.map (·.1),some (l,.dict kvs ver))
    | _=>none
  | _=>none
noncomputable def Bn (e:Ev):Src:=fun ρ σ=>
  bnd (e ρ σ) fun v σ'=>(MT v σ').map fun p=>(p,σ')
noncomputable def EC (e:Ev):Src:=fun ρ σ=>
  bnd (e ρ σ) fun v σ'=>BP (DQ v) fun n=>if 0≤n∧n<lim then some (((List.range n.toNat).map fun(i:Nat)=>SV.int (i:Int),none),σ') else none
noncomputable def MU (e:Ev):Src:=fun ρ σ=>
  bnd (e ρ σ) fun v σ'=>Co v σ' fun l xs=>some ((xs.zipIdx.map fun p=>SV.tup [.int (p.2:Int),p.1],some (l,.list xs)),σ')
noncomputable def FW (e:Ev):Src:=fun ρ σ=>
  bnd (e ρ σ) fun v σ'=>J9 v σ' fun l kvs ver=>some ((kvs.map fun p=>SV.tup [p.1,p.2],some (l,.dict kvs ver)),σ')
inductive Tgt where
  | name (x:String)
  | pair (x y:String)
noncomputable def HL (v:SV)(σ:Hp):Option (SV×SV):=
  match v with
  | .tup xs=>MR xs
  | .loc l=>Co (.loc l) σ fun _ xs=>MR xs
  | _=>none
noncomputable def Ct (t:Tgt)(v:SV)(ρ:Rho)(σ:Hp):Option Rho:=
  match t with
  | .name x=>some (Rho.put ρ x v)
  | .pair x y=>(HL v σ).map fun p=>Rho.put (Rho.put ρ x p.1) y p.2
noncomputable def Hu:List Tv→Tv
  | []=>fun _ σ=>some (true,σ)
  | t::ts=>fun ρ σ=>bnd (t ρ σ) fun b σ1=>cond b (Hu ts ρ σ1) (some (false,σ1))
noncomputable def Cu (tgt:Tgt)(chk:Option (Nat×SObj))(ts:List Tv)(elt:Ev)(ρ:Rho):List SV→Hp→Option (List SV×Hp)
  | [],σ=>if Cj chk σ then some ([],σ) else none
  | x::xs,σ=>if Cj chk σ then
      BP (Ct tgt x ρ σ) fun ρ'=>bnd (Hu ts ρ' σ) fun b σ1=>cond b (bnd (elt ρ' σ1) fun v σ₂=>bnd (Cu tgt chk ts elt ρ xs σ₂) fun vs σ3=>some (v::vs,σ3)) (Cu tgt chk ts elt ρ xs σ1)
    else none
noncomputable def Da (caps:List String)(ρ:Rho):Rho:=caps.filterMap fun x=>(ρ.lookup x).map fun v=>(x,v)
noncomputable def Bb (caps:List String)(tgt:Tgt)(src:Src)(ts:List Tv)(elt:Ev):Ev:=fun ρ σ=>
  bnd (src ρ σ) fun p σ1=>bnd (Cu tgt p.2 ts elt (Da caps ρ) p.1 σ1) fun vs σ₂=>if vs.length<lim then newObj (.list vs) σ₂ else none
noncomputable def Ck:Ex:=fun ρ σ=>some (.next,ρ,σ)
noncomputable def Qb:Ex:=fun _ _=>none
noncomputable def AC (a b:Ex):Ex:=fun ρ σ=>
  match a ρ σ with
  | some (.next,ρ1,σ1)=>b ρ1 σ1
  | r=>r
theorem L9 {a b:Ex}{ρ ρ':Rho}{σ σ':Hp}{f:Flw}{P:Prop}(h:AC a b ρ σ=some (f,ρ',σ'))(k1:∀ρ1 σ1,a ρ σ=some (.next,ρ1,σ1)→b ρ1 σ1=some (f,ρ',σ')→P)(k2:∀v,a ρ σ=some (.ret v,ρ',σ')→f= .ret v→P):P:=by
  unfold AC at h
  cases e:a ρ σ with
  | none=>rw[e] at h; exact nomatch h
  | some p=>
    rw[e] at h
    obtain⟨g,ρ1,σ1⟩:=p
    cases g with
    | next=>exact k1 ρ1 σ1 e h
    | ret v=>
      have q:=Prod.mk.inj (Option.some.inj h)
      exact k2 v (e.trans (congrArg (fun z=>some (Flw.ret v,z)) q.2)) q.1.symm
noncomputable def Bl (e:Ev):Ex:=fun ρ σ=>
  bnd (e ρ σ) fun v σ'=>if v.isScal then some (.next,ρ,σ') else none
noncomputable def Bi (t:Tgt)(e:Ev):Ex:=fun ρ σ=>
  bnd (e ρ σ) fun v σ'=>(Ct t v ρ σ').map fun ρ'=>(.next,ρ',σ')
noncomputable def setField (c f:String)(o v:SV)(σ:Hp):Option Hp:=
  ML o σ fun l c' fs=>if c'=c∧fs.length≤100 then some (σ.set l (.inst c' (Rho.put fs f v))) else none
noncomputable def BE (c:String)(o:Ev)(f:String)(v:Ev):Ex:=fun ρ σ=>
  bnd (v ρ σ) fun x σ1=>bnd (o ρ σ1) fun y σ₂=>(setField c f y x σ₂).map fun σ3=>(.next,ρ,σ3)
noncomputable def setItem (o i v:SV)(σ:Hp):Option Hp:=
  match o with
  | .loc l=>match σ[l]? with
    | some (.list xs)=>BP (DQ i) fun i=>if 0≤i∧i.toNat<xs.length then some (σ.set l (.list (xs.set i.toNat v))) else none
    | some (.dict kvs ver)=>BP (dictSet i v kvs) fun kvs'=>some (σ.set l (.dict kvs' (ver+1)))
    | _=>none
  | _=>none
noncomputable def CM (o i v:Ev):Ex:=fun ρ σ=>
  bnd (v ρ σ) fun x σ1=>bnd (o ρ σ1) fun y σ₂=>bnd (i ρ σ₂) fun z σ3=>(setItem y z x σ3).map fun σ4=>(.next,ρ,σ4)
noncomputable def BH (e:Ev):Ex:=fun ρ σ=>
  bnd (e ρ σ) fun v σ'=>some (.ret v,ρ,σ')
noncomputable def xIf (t:Tv)(a b:Ex):Ex:=fun ρ σ=>
  bnd (t ρ σ) fun t σ1=>cond t (a ρ σ1) (b ρ σ1)
noncomputable def HC (t:Tv)(body:Ex):Nat→Ex
  | 0=>fun _ _=>none
  | n+1=>fun ρ σ=>bnd (t ρ σ) fun b σ1=>cond b (AC body (HC t body n) ρ σ1) (some (.next,ρ,σ1))
noncomputable def FR:Nat:=100000
noncomputable def HM (t:Tv)(body:Ex):Ex:=HC t body FR
noncomputable def FX (tgt:Tgt)(chk:Option (Nat×SObj))(body:Ex):List SV→Ex
  | []=>fun ρ σ=>if Cj chk σ then some (.next,ρ,σ) else none
  | x::xs=>fun ρ σ=>if Cj chk σ then
      BP (Ct tgt x ρ σ) fun ρ1=>AC body (FX tgt chk body xs) ρ1 σ
    else none
noncomputable def CN (tgt:Tgt)(src:Src)(body:Ex):Ex:=fun ρ σ=>
  bnd (src ρ σ) fun p σ1=>FX tgt p.2 body p.1 ρ σ1
noncomputable def BR (params:List String)(body:Ex):Fn:=fun args σ=>
  if args.length=params.length then
    match body (params.zip args) σ with
    | some (.ret v,_,σ')=>some (v,σ')
    | some (.next,_,σ')=>some (.none,σ')
    | none=>none
  else none
end Mine
namespace Mine
open scoped Classical
noncomputable def Wn:Ex:=
  (BH (Qi (AM .ne (Ab "text") (Ag (.str ""))) (AM .eq (Bb [] (.name "sign") (Bn (Ab "text")) [(tOr (AJ (Ql (Ab "sign"))) (AJ (AM .isin (Ab "sign") (Ag (.str "()[]{},:")))))] (Ab "sign")) (Cc []))))
noncomputable def NY:Fn:=BR ["text"] Wn
noncomputable def RC:Ex:=
  (BH (CD (Aq "Bank" (Ab "self") "nodes")))
noncomputable def IA:Fn:=BR ["self"] RC
noncomputable def NZ:Ex:=
  (xIf (tOr (Jq (AJ (Bj NY [(Ab "op")]))) (AJ (AM .eq (Ap (Ab "op") (Ag (.int 0))) (Ag (.str "?")))))
  Qb
  Ck)
noncomputable def Gu:Fn:=BR ["self", "op"] NZ
noncomputable def RD:Ex:=
  (AC (Bi (.name "node") (eOp .add (Bw [(Ab "op")]) (CL (Ab "kids"))))
  (AC (xIf (AJ (AM .isin (Ab "node") (Aq "Bank" (Ab "self") "numbers")))
  (BH (Ap (Aq "Bank" (Ab "self") "numbers") (Ab "node")))
  Ck)
  (AC (Bl (AB "Bank" "require" Gu (Ab "self") [(Ab "op")]))
  (AC (CN (.name "kid") (Bn (ET (Ab "node") 1))
  (xIf (Jq (AJ (Kb .le .lt (Ag (.int 0)) (Ab "kid") (CD (Aq "Bank" (Ab "self") "nodes")))))
  Qb
  Ck))
  (AC (CM (Aq "Bank" (Ab "self") "numbers") (Ab "node") (CD (Aq "Bank" (Ab "self") "nodes")))
  (AC (Bl (B6 (Aq "Bank" (Ab "self") "nodes") (Ab "node")))
  (AC (Bl (B6 (Aq "Bank" (Ab "self") "weights") (eOp .add (Ag (.int 1)) (Vn (Bb ["self"] (.name "kid") (Bn (ET (Ab "node") 1)) [] (Ap (Aq "Bank" (Ab "self") "weights") (Ab "kid")))))))
  (AC (Bl (B6 (Aq "Bank" (Ab "self") "depths") (eOp .add (Ag (.int 1)) (Vo (eOp .add (Bb ["self"] (.name "kid") (Bn (ET (Ab "node") 1)) [] (Ap (Aq "Bank" (Ab "self") "depths") (Ab "kid"))) (Cc [(Ag (.int 0))]))))))
  (BH (eOp .sub (CD (Aq "Bank" (Ab "self") "nodes")) (Ag (.int 1))))))))))))
noncomputable def GM:Fn:=BR ["self", "op", "kids"] RD
noncomputable def Uf:Ex:=
  (BH (Ap (Ap (Aq "Bank" (Ab "self") "nodes") (Ab "n")) (Ag (.int 0))))
noncomputable def DR:Fn:=BR ["self", "n"] Uf
noncomputable def RE:Ex:=
  (BH (ET (Ap (Aq "Bank" (Ab "self") "nodes") (Ab "n")) 1))
noncomputable def Cv:Fn:=BR ["self", "n"] RE
noncomputable def Lu:Ex:=
  (AC (Bi (.pair "below" "stack") (Bw [(Qk (Ab "n") (Ag (.bool true))),(Cc [(Ab "n")])]))
  (AC (HM (AJ (AM .gt (CD (Ab "stack")) (Ag (.int 0))))
  (CN (.name "kid") (Bn (AB "Bank" "kids" Cv (Ab "self") [(NW (Ab "stack"))]))
  (xIf (AJ (AM .notin (Ab "kid") (Ab "below")))
  (AC (CM (Ab "below") (Ab "kid") (Ag (.bool true)))
  (Bl (B6 (Ab "stack") (Ab "kid"))))
  Ck)))
  (AC (Bi (.name "made") IS)
  (AC (CN (.name "k") (Bn (DA (Ab "below")))
  (CM (Ab "made") (Ab "k") (eOp .add (Bw [(AB "Bank" "op" DR (Ab "self") [(Ab "k")])]) (CL (Bb ["made"] (.name "kid") (Bn (AB "Bank" "kids" Cv (Ab "self") [(Ab "k")])) [] (Ap (Ab "made") (Ab "kid")))))))
  (BH (Ap (Ab "made") (Ab "n")))))))
noncomputable def EL:Fn:=BR ["self", "n"] Lu
noncomputable def RF:Ex:=
  (AC (BE "Bank" (Ab "self") "nodes" (Cc []))
  (AC (BE "Bank" (Ab "self") "numbers" IS)
  (AC (BE "Bank" (Ab "self") "weights" (Cc []))
  (BE "Bank" (Ab "self") "depths" (Cc [])))))
noncomputable def IB:Fn:=BR ["self"] RF
noncomputable def Px:Ex:=
  (AC (BE "Unions" (Ab "self") "above" (Cc []))
  (AC (BE "Unions" (Ab "self") "lots" (Cc []))
  (BE "Unions" (Ab "self") "merged" (Cc []))))
noncomputable def Hh:Fn:=BR ["self"] Px
noncomputable def Py:Ex:=
  (AC (Bl (B6 (Aq "Unions" (Ab "self") "above") (CD (Aq "Unions" (Ab "self") "above"))))
  (AC (Bl (B6 (Aq "Unions" (Ab "self") "lots") (Cc [(CD (Aq "Unions" (Ab "self") "lots"))])))
  (BH (eOp .sub (CD (Aq "Unions" (Ab "self") "above")) (Ag (.int 1))))))
noncomputable def Hi:Fn:=BR ["self"] Py
noncomputable def Pz:Ex:=
  (BH (CD (Aq "Unions" (Ab "self") "above")))
noncomputable def FA:Fn:=BR ["self"] Pz
noncomputable def PA:Ex:=
  (AC (HM (AJ (AM .ne (Ap (Aq "Unions" (Ab "self") "above") (Ab "a")) (Ab "a")))
  (Bi (.name "a") (Ap (Aq "Unions" (Ab "self") "above") (Ab "a"))))
  (BH (Ab "a")))
noncomputable def DM:Fn:=BR ["self", "a"] PA
noncomputable def N0:Ex:=
  (AC (Bi (.pair "kept" "gone") (DA (Cc [(AB "Unions" "find" DM (Ab "self") [(Ab "a")]),(AB "Unions" "find" DM (Ab "self") [(Ab "b")])])))
  (AC (xIf (AJ (AM .eq (Ab "kept") (Ab "gone")))
  (BH (Ag .none))
  Ck)
  (AC (CM (Aq "Unions" (Ab "self") "above") (Ab "gone") (Ab "kept"))
  (AC (Bl (K9 (Ap (Aq "Unions" (Ab "self") "lots") (Ab "kept")) (Ap (Aq "Unions" (Ab "self") "lots") (Ab "gone"))))
  (AC (Bl (B6 (Aq "Unions" (Ab "self") "merged") (Bw [(Ab "kept"),(Ab "gone")])))
  (BH (Bw [(Ab "kept"),(Ab "gone")])))))))
noncomputable def Fa:Fn:=BR ["self", "a", "b"] N0
noncomputable def Ma:Ex:=
  (BH (DA (Ap (Aq "Unions" (Ab "self") "lots") (AB "Unions" "find" DM (Ab "self") [(Ab "a")]))))
noncomputable def FK:Fn:=BR ["self", "a"] Ma
noncomputable def Mb:Ex:=
  (BH (Bb ["self"] (.name "a") (EC (CD (Aq "Unions" (Ab "self") "above"))) [(AJ (AM .eq (Ap (Aq "Unions" (Ab "self") "above") (Ab "a")) (Ab "a")))] (Ab "a")))
noncomputable def FL:Fn:=BR ["self"] Mb
noncomputable def RG:Ex:=
  (AC (BE "Heap" (Ab "self") "bank" (Iy "Bank" IB []))
  (AC (BE "Heap" (Ab "self") "unions" (Iy "Unions" Hh []))
  (AC (BE "Heap" (Ab "self") "edges" (Cc []))
  (AC (BE "Heap" (Ab "self") "forest" (Cc []))
  (AC (BE "Heap" (Ab "self") "known" IS)
  (AC (BE "Heap" (Ab "self") "above" IS)
  (AC (BE "Heap" (Ab "self") "waiting" (Cc []))
  (BE "Heap" (Ab "self") "backs" (Ag (.int 0))))))))))
noncomputable def EM:Fn:=BR ["self"] RG
noncomputable def RH:Ex:=
  (BH (AB "Bank" "size" IA (Aq "Heap" (Ab "self") "bank") []))
noncomputable def Fq:Fn:=BR ["self"] RH
noncomputable def RI:Ex:=
  (BH (AB "Unions" "find" DM (Aq "Heap" (Ab "self") "unions") [(Ab "n")]))
noncomputable def Bu:Fn:=BR ["self", "n"] RI
noncomputable def RJ:Ex:=
  (BH (eOp .add (Bw [(AB "Bank" "op" DR (Aq "Heap" (Ab "self") "bank") [(Ab "n")])]) (CL (Bb ["self"] (.name "kid") (Bn (AB "Bank" "kids" Cv (Aq "Heap" (Ab "self") "bank") [(Ab "n")])) [] (AB "Heap" "find" Bu (Ab "self") [(Ab "kid")])))))
noncomputable def Fr:Fn:=BR ["self", "n"] RJ
noncomputable def RK:Ex:=
  (AC (Bl (B6 (Aq "Heap" (Ab "self") "edges") (Bw [(Ab "a"),(Ab "b"),(Ab "reason")])))
  (AC (Bi (.name "merged") (AB "Unions" "merge" Fa (Aq "Heap" (Ab "self") "unions") [(Ab "a"),(Ab "b")]))
  (AC (xIf (AJ (AM .is (Ab "merged") (Ag .none)))
  (BH (Ag (.bool false)))
  Ck)
  (AC (Bi (.pair "kept" "gone") (Ab "merged"))
  (AC (Bl (B6 (Aq "Heap" (Ab "self") "forest") (eOp .sub (CD (Aq "Heap" (Ab "self") "edges")) (Ag (.int 1)))))
  (AC (Bl (K9 (Aq "Heap" (Ab "self") "waiting") (Ap (Aq "Heap" (Ab "self") "above") (Ab "gone"))))
  (AC (CM (Aq "Heap" (Ab "self") "above") (Ab "kept") (eOp .add (Ap (Aq "Heap" (Ab "self") "above") (Ab "kept")) (NX (Aq "Heap" (Ab "self") "above") (Ab "gone"))))
  (BH (Ag (.bool true))))))))))
noncomputable def GN:Fn:=BR ["self", "a", "b", "reason"] RK
noncomputable def N3:Ex:=
  (AC (Bi (.name "other") (GL (Aq "Heap" (Ab "self") "known") (AB "Heap" "node" Fr (Ab "self") [(Ab "n")]) (Ab "n")))
  (xIf (AJ (AM .ne (AB "Heap" "find" Bu (Ab "self") [(Ab "other")]) (AB "Heap" "find" Bu (Ab "self") [(Ab "n")])))
  (Bl (AB "Heap" "join" GN (Ab "self") [(Ab "other"),(Ab "n"),(Bw [(Ag (.str "like"))])]))
  Ck))
noncomputable def Ef:Fn:=BR ["self", "n"] N3
noncomputable def S7:Ex:=
  (AC (Bi (.name "n") (AB "Bank" "take" GM (Aq "Heap" (Ab "self") "bank") [(Ab "op"),(Ab "numbers")]))
  (AC (xIf (AJ (AM .lt (Ab "n") (AB "Unions" "size" FA (Aq "Heap" (Ab "self") "unions") [])))
  (BH (Ab "n"))
  Ck)
  (AC (Bl (AB "Unions" "make" Hi (Aq "Heap" (Ab "self") "unions") []))
  (AC (CM (Aq "Heap" (Ab "self") "above") (Ab "n") (Cc []))
  (AC (CN (.name "c") (Bn (Jr (Bb ["self"] (.name "kid") (Bn (Ab "numbers")) [] (AB "Heap" "find" Bu (Ab "self") [(Ab "kid")]))))
  (Bl (B6 (Ap (Aq "Heap" (Ab "self") "above") (Ab "c")) (Ab "n"))))
  (AC (Bl (AB "Heap" "look_at" Ef (Ab "self") [(Ab "n")]))
  (BH (Ab "n"))))))))
noncomputable def DS:Fn:=BR ["self", "op", "numbers"] S7
noncomputable def MV (rec:Fn):Ex:=
  (BH (AB "Heap" "add" DS (Ab "self") [(Ap (Ab "term") (Ag (.int 0))),(CL (Bb ["self"] (.name "part") (Bn (ET (Ab "term") 1)) [] (AB "Heap" "put" rec (Ab "self") [(Ab "part")])))]))
noncomputable def C4:Nat→Fn
  | 0=>fun _ _=>none
  | n+1=>BR ["self", "term"] (MV (C4 n))
noncomputable def Qo:Ex:=
  (BH (AB "Heap" "join" GN (Ab "self") [(Ab "a"),(Ab "b"),(Ab "reason")]))
noncomputable def DE:Fn:=BR ["self", "a", "b", "reason"] Qo
noncomputable def PB:Ex:=
  (HM (AJ (AM .gt (CD (Aq "Heap" (Ab "self") "waiting")) (Ag (.int 0))))
  (Bl (AB "Heap" "look_at" Ef (Ab "self") [(NW (Aq "Heap" (Ab "self") "waiting"))])))
noncomputable def ED:Fn:=BR ["self"] PB
noncomputable def Lm:Ex:=
  (BH (AM .eq (CD (Aq "Heap" (Ab "self") "waiting")) (Ag (.int 0))))
noncomputable def Fo:Fn:=BR ["self"] Lm
noncomputable def N4:Ex:=
  (BH (AB "Unions" "classes" FL (Aq "Heap" (Ab "self") "unions") []))
noncomputable def Eg:Fn:=BR ["self"] N4
noncomputable def N5:Ex:=
  (BH (AB "Unions" "members" FK (Aq "Heap" (Ab "self") "unions") [(Ab "c")]))
noncomputable def Fb:Fn:=BR ["self", "c"] N5
noncomputable def Qp:Ex:=
  (AC (Bi (.name "found") (Cc []))
  (AC (CN (.name "n") (EC (AB "Heap" "size" Fq (Ab "heap") []))
  (AC (Bl (B6 (Ab "found") (AB "Heap" "add" DS (Aq "Join" (Ab "self") "heap") [(AB "Bank" "op" DR (Aq "Heap" (Ab "heap") "bank") [(Ab "n")]),(CL (Bb ["found"] (.name "kid") (Bn (AB "Bank" "kids" Cv (Aq "Heap" (Ab "heap") "bank") [(Ab "n")])) [] (Ap (Ab "found") (Ab "kid"))))])))
  (xIf (AJ (AM .ne (AB "Heap" "find" Bu (Ab "heap") [(Ab "n")]) (Ab "n")))
  (Bl (AB "Heap" "merge" DE (Aq "Join" (Ab "self") "heap") [(Ap (Ab "found") (AB "Heap" "find" Bu (Ab "heap") [(Ab "n")])),(Ap (Ab "found") (Ab "n")),(Bw [(Ag (.str "told")),(Ab "label")])]))
  Ck)))
  (BH (Ab "found"))))
noncomputable def Eh:Fn:=BR ["self", "heap", "label"] Qp
noncomputable def RL:Ex:=
  (AC (BE "Join" (Ab "self") "heap" (Iy "Heap" EM []))
  (AC (BE "Join" (Ab "self") "places" (Cc [(AB "Join" "taken" Eh (Ab "self") [(Ab "one"),(Ag (.str "one"))]),(AB "Join" "taken" Eh (Ab "self") [(Ab "other"),(Ag (.str "other"))])]))
  (Bl (AB "Heap" "settle" ED (Aq "Join" (Ab "self") "heap") []))))
noncomputable def IC:Fn:=BR ["self", "one", "other"] RL
noncomputable def MW:Ex:=
  (BH (AB "Heap" "find" Bu (Aq "Join" (Ab "self") "heap") [(Ap (Ap (Aq "Join" (Ab "self") "places") (Ab "side")) (Ab "n"))]))
noncomputable def Dj:Fn:=BR ["self", "side", "n"] MW
noncomputable def S9:Ex:=
  (AC (Bi (.pair "cells" "spot") (Ab "tape"))
  (AC (CM (Ab "tape") (Ag (.int 1)) (eOp .add (Ab "spot") (Ag (.int 1))))
  (BH (eOp .mod (eIf (AJ (AM .lt (Ab "spot") (CD (Ab "cells")))) (Ap (Ab "cells") (Ab "spot")) (eOp .mod (eOp .add (eOp .add (eOp .mul (eOp .mul (Ag (.int 8)) (Ab "spot")) (Ab "spot")) (eOp .mul (Ag (.int 3)) (Ab "spot"))) (Ag (.int 4))) (Ag (.int 83)))) (Ab "many")))))
noncomputable def AT:Fn:=BR ["tape", "many"] S9
noncomputable def MX (rec:Fn):Ex:=
  (AC (Bi (.name "way") (eIf (AJ (AM .gt (Ab "deep") (Ag (.int 0)))) (Bj AT [(Ab "tape"),(Ag (.int 6))]) (Ag (.int 0))))
  (AC (xIf (AJ (AM .lt (Ab "way") (Ag (.int 3))))
  (BH (Bw [(Ap (Ag (.str "abc")) (Bj AT [(Ab "tape"),(Ag (.int 3))]))]))
  Ck)
  (BH (eOp .add (Bw [(eIf (AJ (AM .lt (Ab "way") (Ag (.int 5)))) (Ag (.str "f")) (Ag (.str "h")))]) (CL (Bb ["deep", "tape"] (.name "turn") (EC (eIf (AJ (AM .eq (Ab "way") (Ag (.int 3)))) (Ag (.int 1)) (Ag (.int 2)))) [] (Bj rec [(Ab "tape"),(eOp .sub (Ab "deep") (Ag (.int 1)))])))))))
noncomputable def CB:Nat→Fn
  | 0=>fun _ _=>none
  | n+1=>BR ["tape", "deep"] (MX (CB n))
noncomputable def Kd (rec:Fn):Ex:=
  (AC (CN (.name "kid") (Bn (ET (Ab "tree") 1))
  (Bl (Bj rec [(Ab "kid"),(Ab "found")])))
  (xIf (AJ (AM .notin (Ab "tree") (Ab "found")))
  (Bl (B6 (Ab "found") (Ab "tree")))
  Ck))
noncomputable def CO:Nat→Fn
  | 0=>fun _ _=>none
  | n+1=>BR ["tree", "found"] (Kd (CO n))
noncomputable def Ta:Ex:=
  (AC (Bi (.pair "heap" "some") (Bw [(Iy "Heap" EM []),(Cc [])]))
  (AC (Bi (.name "trees") (Bb ["tape"] (.name "turn") (EC (eOp .add (Ag (.int 1)) (Bj AT [(Ab "tape"),(Ag (.int 2))]))) [] (Bj (CB 4) [(Ab "tape"),(Ag (.int 2))])))
  (AC (CN (.name "tree") (Bn (Ab "trees"))
  (Bl (Bj (CO 4) [(Ab "tree"),(Ab "some")])))
  (AC (Bi (.name "numbers") (EK (Bb ["heap"] (.name "tree") (Bn (Ab "some")) [] (Bw [(Ab "tree"),(AB "Heap" "put" (C4 4) (Ab "heap") [(Ab "tree")])]))))
  (AC (Bi (.name "told") (Bb ["some", "tape"] (.name "turn") (EC (Bj AT [(Ab "tape"),(Ag (.int 3))])) [] (Bw [(Ap (Ab "some") (Bj AT [(Ab "tape"),(CD (Ab "some"))])),(Ap (Ab "some") (Bj AT [(Ab "tape"),(CD (Ab "some"))]))])))
  (AC (CN (.pair "high" "low") (Bn (Ab "told"))
  (Bl (AB "Heap" "merge" DE (Ab "heap") [(Ap (Ab "numbers") (Ab "high")),(Ap (Ab "numbers") (Ab "low")),(Bw [(Ag (.str "told")),(Ag (.str "s"))])])))
  (AC (xIf (AJ (AM .eq (Bj AT [(Ab "tape"),(Ag (.int 2))]) (Ag (.int 0))))
  (Bl (AB "Heap" "settle" ED (Ab "heap") []))
  Ck)
  (BH (Bw [(Ab "heap"),(Ab "numbers"),(Ab "told")])))))))))
noncomputable def FY:Fn:=BR ["tape"] Ta
noncomputable def Ke:Ex:=
  (AC (Bi (.pair "home" "is_new") (Bw [(EK (Bb [] (.pair "at" "tree") (MU (Ab "some")) [] (Bw [(Ab "tree"),(Ab "at")]))),(Ag (.bool true))]))
  (AC (HM (AJ (Ab "is_new"))
  (AC (Bi (.name "is_new") (Ag (.bool false)))
  (CN (.name "tree") (Bn (Ab "some"))
  (CN (.name "late") (Bn (Ab "some"))
  (AC (Bi (.name "is_alike") (Qi (AM .eq (Ap (Ab "tree") (Ag (.int 0))) (Ap (Ab "late") (Ag (.int 0)))) (AM .eq (Bb ["home"] (.name "kid") (Bn (ET (Ab "tree") 1)) [] (Ap (Ab "home") (Ab "kid"))) (Bb ["home"] (.name "kid") (Bn (ET (Ab "late") 1)) [] (Ap (Ab "home") (Ab "kid"))))))
  (xIf (Qj (AJ (AM .ne (Ap (Ab "home") (Ab "tree")) (Ap (Ab "home") (Ab "late")))) (tOr (AJ (Ab "is_alike")) (AJ (AM .isin (Bw [(Ab "tree"),(Ab "late")]) (Ab "told")))))
  (AC (Bi (.pair "low" "high") (DA (Cc [(Ap (Ab "home") (Ab "tree")),(Ap (Ab "home") (Ab "late"))])))
  (AC (Bi (.name "home") (EK (Bb ["high", "low"] (.pair "each" "spot") (FW (Ab "home")) [] (Bw [(Ab "each"),(eIf (AJ (AM .eq (Ab "spot") (Ab "high"))) (Ab "low") (Ab "spot"))]))))
  (Bi (.name "is_new") (Ag (.bool true)))))
  Ck))))))
  (BH (Ab "home"))))
noncomputable def FZ:Fn:=BR ["some", "told"] Ke
noncomputable def RM:Ex:=
  (BH (Bw [(Bb ["heap"] (.name "n") (EC (AB "Heap" "size" Fq (Ab "heap") [])) [] (AB "Heap" "find" Bu (Ab "heap") [(Ab "n")])),(Gs (Aq "Heap" (Ab "heap") "edges")),(Gs (Aq "Heap" (Ab "heap") "waiting")),(Gs (AB "Heap" "classes" Eg (Ab "heap") []))]))
noncomputable def D4:Fn:=BR ["heap"] RM
noncomputable def N6:Ex:=
  (AC (Bi (.name "both") (Iy "Join" IC [(Ap (Ap (Ab "sides") (Ag (.int 0))) (Ag (.int 0))),(Ap (Ap (Ab "sides") (Ag (.int 1))) (Ag (.int 0)))]))
  (AC (xIf (tOr (AJ (AM .ne (AB "Heap" "size" Fq (Aq "Join" (Ab "both") "heap") []) (CD (Ab "home")))) (Jq (AJ (AB "Heap" "is_settled" Fo (Aq "Join" (Ab "both") "heap") []))))
  (BH (Ag (.bool false)))
  Ck)
  (AC (CN (.name "side") (Bn (Bw [(Ag (.int 0)),(Ag (.int 1))]))
  (CN (.pair "tree" "n") (FW (Ap (Ap (Ab "sides") (Ab "side")) (Ag (.int 1))))
  (AC (Bi (.name "c") (AB "Join" "class_of" Dj (Ab "both") [(Ab "side"),(Ab "n")]))
  (AC (Bi (.name "row") (eIf (AJ (AM .isin (Ab "c") (AB "Heap" "classes" Eg (Aq "Join" (Ab "both") "heap") []))) (AB "Heap" "members" Fb (Aq "Join" (Ab "both") "heap") [(Ab "c")]) (Cc [])))
  (AC (Bi (.name "due") (DA (Bb ["home", "tree"] (.name "late") (Bn (Ab "home")) [(AJ (AM .eq (Ap (Ab "home") (Ab "late")) (Ap (Ab "home") (Ab "tree"))))] (Ab "late"))))
  (xIf (tOr (AJ (AM .ne (DA (Bb ["both"] (.name "m") (Bn (Ab "row")) [] (AB "Bank" "term" EL (Aq "Heap" (Aq "Join" (Ab "both") "heap") "bank") [(Ab "m")]))) (Ab "due"))) (tOr (AJ (AM .ne (Ap (Ab "row") (Ag (.int 0))) (Ab "c"))) (AJ (AM .ne (AB "Join" "class_of" Dj (Ab "both") [(Ab "side"),(Ab "n")]) (Ab "c")))))
  (BH (Ag (.bool false)))
  Ck))))))
  (BH (Ag (.bool true))))))
noncomputable def Fc:Fn:=BR ["sides", "home"] N6
noncomputable def Qc:Ex:=
  (AC (Bi (.name "sides") (Cc [(Bj FY [(Ab "tape")]),(Bj FY [(Ab "tape")])]))
  (AC (Bi (.name "some") (eOp .add (Gs (Ap (Ap (Ab "sides") (Ag (.int 0))) (Ag (.int 1)))) (Bb ["sides"] (.name "tree") (Bn (Ap (Ap (Ab "sides") (Ag (.int 1))) (Ag (.int 1)))) [(AJ (AM .notin (Ab "tree") (Ap (Ap (Ab "sides") (Ag (.int 0))) (Ag (.int 1)))))] (Ab "tree"))))
  (AC (Bi (.name "told") (eOp .add (Ap (Ap (Ab "sides") (Ag (.int 0))) (Ag (.int 2))) (Ap (Ap (Ab "sides") (Ag (.int 1))) (Ag (.int 2)))))
  (AC (Bi (.pair "home" "was") (Bw [(Bj FZ [(Ab "some"),(eOp .add (Ab "told") (Bb [] (.name "pair") (Bn (Ab "told")) [] (L7 (Ab "pair"))))]),(Bb [] (.name "side") (Bn (Ab "sides")) [] (Bj D4 [(Ap (Ab "side") (Ag (.int 0)))]))]))
  (AC (xIf (tOr (Jq (AJ (Bj Fc [(Ab "sides"),(Ab "home")]))) (Jq (AJ (Bj Fc [(L7 (Ab "sides")),(Ab "home")]))))
  (BH (Ag (.bool false)))
  Ck)
  (BH (AM .eq (Bb [] (.name "side") (Bn (Ab "sides")) [] (Bj D4 [(Ap (Ab "side") (Ag (.int 0)))])) (Ab "was"))))))))
end Mine
namespace Mine
open scoped Classical
open PySem PySem.W PySem.Calls PyProof.Rows
theorem DF {a b:String}(h:Str.ofString a=Str.ofString b):a=b:=by
  rw[Str.ofString_eq_toList,Str.ofString_eq_toList] at h
  exact String.toList_inj.mp (List.map_inj_right (fun _ _=>Char.toNat_inj.mp) |>.mp (congrArg (fun s:Str=>s.cps.toList) h))
inductive All2 {α β:Type} (R:α→β→Prop):List α→List β→Prop
  | nil:All2 R [] []
  | cons {a b as bs}:R a b→All2 R as bs→All2 R (a::as) (b::bs)
section
variable {α β:Type}{R S:α→β→Prop}{as cs:List α}{bs ds:List β}
theorem All2.mono (h:∀a b,R a b→S a b)(q:All2 R as bs):All2 S as bs:=by
  induction q with
  | nil=>exact .nil
  | cons x _ ih=>exact .cons (h _ _ x) ih
theorem All2.length (q:All2 R as bs):as.length=bs.length:=by
  induction q with
  | nil=>rfl
  | cons _ _ ih=>exact congrArg Nat.succ ih
theorem All2.append (q:All2 R as bs)(y:All2 R cs ds):All2 R (as++cs) (bs++ds):=by
  induction q with
  | nil=>exact y
  | cons x _ ih=>exact .cons x ih
theorem All2.get (q:All2 R as bs):∀{i:Nat} {a:α},as[i]? =some a→∃b,bs[i]? =some b∧R a b:=by
  induction q with
  | nil=>exact fun h=>nomatch h
  | cons x _ ih=>
    intro i a h
    cases i with
    | zero=>exact⟨_,rfl,Option.some.inj h▸x⟩
    | succ i=>exact ih h
theorem All2.drop (q:All2 R as bs):∀k,All2 R (as.drop k) (bs.drop k):=by
  induction q with
  | nil=>intro k; cases k <;> exact .nil
  | cons x r ih=>
    intro k
    cases k with
    | zero=>exact .cons x r
    | succ k=>exact ih k
theorem All2.take (q:All2 R as bs):∀k,All2 R (as.take k) (bs.take k):=by
  induction q with
  | nil=>intro k; cases k <;> exact .nil
  | cons x r ih=>
    intro k
    cases k with
    | zero=>exact .nil
    | succ k=>exact .cons x (ih k)
theorem All2.reverse (q:All2 R as bs):All2 R as.reverse bs.reverse:=by
  induction q with
  | nil=>exact .nil
  | cons x _ ih=>rw[List.reverse_cons,List.reverse_cons]; exact ih.append (.cons x .nil)
theorem All2.set (q:All2 R as bs){a:α}{b:β}(z:R a b):∀i,All2 R (as.set i a) (bs.set i b):=by
  induction q with
  | nil=>exact fun _=> .nil
  | cons x r ih=>
    intro i
    cases i with
    | zero=>exact .cons z r
    | succ i=>exact .cons x (ih i)
end
abbrev Phi:=List (List Addr)
noncomputable def own (φ:Phi):List Addr:=φ.flatten
noncomputable def Cd (φ:Phi)(l:Nat):Option Addr:=(φ[l]?).bind List.head?
theorem BL {φ:Phi}{l:Nat}{as:List Addr}{a:Addr}(h:φ[l]? =some as)(ha:a∈as):a∈own φ:=
  List.mem_flatten.mpr ⟨as,List.mem_of_getElem? h,ha⟩
theorem Tb {φ:Phi}{a:Addr}(h:a∈own φ):∃(l:Nat) (as:List Addr),φ[l]? =some as∧a∈as:=by
  obtain⟨as,h1,h2⟩:=List.mem_flatten.mp h
  obtain⟨l,hl⟩:=List.mem_iff_getElem?.mp h1
  exact⟨l,as,hl,h2⟩
mutual
noncomputable def Al (φ:Phi)(h:Heap):SV→Value→Prop
  | .none,v=>v= .none
  | .bool b,v=>v= .bool b
  | .int i,v=>∃t,v= .int i t
  | .str s,v=>∃t,v= .str (Str.ofString s) t
  | .tup xs,v=>∃a items,v= .ref a∧h.IsTuple a items∧Ak φ h xs items.toList
  | .loc l,v=>∃a,Cd φ l=some a∧v= .ref a
noncomputable def Ak (φ:Phi)(h:Heap):List SV→List Value→Prop
  | [],vs=>vs= []
  | x::xs,vs=>∃v r,vs=v::r∧Al φ h x v∧Ak φ h xs r
end
section
variable {φ φ':Phi}{h h':Heap}{x:SV}{xs ys:List SV}{v:Value}{vs ws:List Value}
theorem Ak.all:Ak φ h xs vs↔All2 (Al φ h) xs vs:=by
  constructor
  · intro e
    induction xs generalizing vs with
    | nil=>exact(show vs= [] from e)▸ .nil
    | cons x xs ih=>
      obtain⟨v,r,e,h1,h2⟩:=e
      exact e▸ .cons h1 (ih h2)
  · intro q
    induction q with
    | nil=>rfl
    | cons x _ ih=>exact⟨_,_,rfl,x,ih⟩
theorem Ak.length (e:Ak φ h xs vs):xs.length=vs.length:=(Ak.all.mp e).length
theorem Ak.cons':Ak φ h (x::xs) (v::vs)↔Al φ h x v∧Ak φ h xs vs:=
  ⟨fun⟨_,_,e,h1,h2⟩=>⟨(List.cons.inj e).1▸h1,(List.cons.inj e).2▸h2⟩,fun⟨h1,h2⟩=>⟨_,_,rfl,h1,h2⟩⟩
theorem Ak.nil':Ak φ h [] vs↔vs= []:=Iff.rfl
theorem Ak.append (e:Ak φ h xs vs)(r:Ak φ h ys ws):Ak φ h (xs++ys) (vs++ws):=Ak.all.mpr ((Ak.all.mp e).append (Ak.all.mp r))
theorem Ak.get (e:Ak φ h xs vs){i:Nat}(hx:xs[i]? =some x):∃v,vs[i]? =some v∧Al φ h x v:=(Ak.all.mp e).get hx
theorem Ak.drop (k:Nat)(e:Ak φ h xs vs):Ak φ h (xs.drop k) (vs.drop k):=Ak.all.mpr ((Ak.all.mp e).drop k)
theorem Ak.take (k:Nat)(e:Ak φ h xs vs):Ak φ h (xs.take k) (vs.take k):=Ak.all.mpr ((Ak.all.mp e).take k)
theorem Ak.reverse (e:Ak φ h xs vs):Ak φ h xs.reverse vs.reverse:=Ak.all.mpr (Ak.all.mp e).reverse
theorem Ak.set (i:Nat)(e:Ak φ h xs vs)(q:Al φ h x v):Ak φ h (xs.set i x) (vs.set i v):=Ak.all.mpr ((Ak.all.mp e).set q i)
variable (ha:∀l a,Cd φ l=some a→Cd φ' l=some a)(ht:∀a items,h.IsTuple a items→h'.IsTuple a items)
include ha ht
mutual
theorem Al.mono:∀{x:SV} {v:Value},Al φ h x v→Al φ' h' x v
  | .none,_,e=>e
  | .bool _,_,e=>e
  | .int _,_,e=>e
  | .str _,_,e=>e
  | .tup _,_,e=>e.elim fun a e=>e.elim fun items e=>⟨a,items,e.1,ht a items e.2.1,Ak.mono e.2.2⟩
  | .loc l,_,e=>e.elim fun a e=>⟨a,ha l a e.1,e.2⟩
theorem Ak.mono:∀{xs:List SV} {vs:List Value},Ak φ h xs vs→Ak φ' h' xs vs
  | [],_,e=>e
  | _::_,_,e=>e.elim fun v e=>e.elim fun r e=>⟨v,r,e.1,Al.mono e.2.1,Ak.mono e.2.2⟩
end
end
end Mine
namespace Mine
open scoped Classical
open PySem PySem.W PySem.Calls PyProof.Rows
open Sem (wp)
mutual
noncomputable def Do:SV→PyData
  | .int i=> .int i
  | .str s=> .str (Str.ofString s)
  | .tup xs=> .tuple (Fd xs)
  | .none=> .none
  | .bool _=> .none
  | .loc _=> .none
noncomputable def Fd:List SV→List PyData
  | []=> []
  | x::xs=>Do x::Fd xs
end
theorem IV (s:String):PyData.strOk (Str.ofString s)=true:=by
  rw[Str.ofString_eq_toList]
  simp only[PyData.strOk]
  rw[←Array.all_toList]
  simp only[List.all_map,List.all_eq_true,Function.comp,decide_eq_true_eq]
  intro c _
  have h:=c.valid
  show c.val.toNat<_
  simp only[UInt32.isValidChar,Nat.isValidChar] at h
  omega
section
variable {P:Nat→SV→Prop}{Q:Nat→List SV→Prop}(hi:∀n i,P n (.int i))(hs:∀n s,P n (.str s))(ht:∀n xs,Q n xs→P (n+1) (.tup xs))(hn:∀n,Q n [])(hc:∀n x xs,P n x→Q n xs→Q n (x::xs))
include hi hs ht hn hc
mutual
theorem Sm:∀(x:SV) (n:Nat),x.isKeyD n=true→P n x
  | .int i,n,_=>hi n i
  | .str s,n,_=>hs n s
  | .tup xs,n+1,h=>ht n xs (Mc xs n h)
theorem Mc:∀(xs:List SV) (n:Nat),SV.areKeysD n xs=true→Q n xs
  | [],n,_=>hn n
  | x::xs,n,h=>hc n x xs (Sm x n (Bool.and_eq_true_iff.mp h).1) (Mc xs n (Bool.and_eq_true_iff.mp h).2)
end
theorem EN:(∀(n:Nat) (x:SV),x.isKeyD n=true→P n x)∧∀(n:Nat) (xs:List SV),SV.areKeysD n xs=true→Q n xs:=
  ⟨fun n x=>Sm hi hs ht hn hc x n,fun n xs=>Mc hi hs ht hn hc xs n⟩
end
theorem Tc {h:Heap}:(∀(n:Nat) (x:SV),x.isKeyD n=true→∀v,Al [] h x v→Reads h v (Do x) [])∧∀(n:Nat) (xs:List SV),SV.areKeysD n xs=true→∀vs,Ak [] h xs vs→ReadsAll h vs (Fd xs) []:=by
  refine EN (fun n i v r=>?_) (fun n i v r=>?_) (fun n xs ih v r=>?_) (fun n vs r=>?_) fun n x xs ih1 ih2 vs r=>?_
  · obtain⟨t,e⟩:=r; exact e▸ .int i t
  · obtain⟨t,e⟩:=r; exact e▸ .str _ t
  · obtain⟨a,items,e,⟨o,ho,hc,k,hd⟩,h2⟩:=r
    exact e▸ .tuple ho hc hd (ih _ h2)
  · exact(show vs= [] from r)▸ .nil
  · obtain⟨v,r,e,h1,h2⟩:=r
    exact e▸ .cons (as:= []) (bs:= []) (ih1 v h1) (ih2 r h2)
theorem Ie {h:Heap}(n:Nat)(x:SV)(v:Value)(k:x.isKeyD n=true):Al [] h x v→Reads h v (Do x) []:=Tc.1 n x k v
theorem Md:(∀(n:Nat) (x:SV),x.isKeyD n=true→(Do x).canLay0=true∧(Do x).depth≤n)∧∀(n:Nat) (xs:List SV),SV.areKeysD n xs=true→PyData.canLayAll0 (Fd xs)=true∧PyData.depthAll (Fd xs)≤n:=
  EN (fun n i=>⟨rfl,Nat.zero_le _⟩) (fun n s=>⟨IV s,Nat.zero_le _⟩) (fun n xs ih=>⟨ih.1,Nat.succ_le_succ ih.2⟩) (fun n=>⟨rfl,Nat.zero_le _⟩)
    fun n x xs a b=>⟨Bool.and_eq_true_iff.mpr ⟨a.1,b.1⟩,Nat.max_le.mpr ⟨a.2,b.2⟩⟩
theorem Ga (n:Nat)(x:SV)(k:x.isKeyD n=true):(Do x).canLay0=true:=(Md.1 n x k).1
theorem OO (n:Nat)(x:SV)(k:x.isKeyD n=true):(Do x).depth≤n:=(Md.1 n x k).2
noncomputable def MY:SV→Nat
  | .none=>0
  | .bool _=>1
  | .int _=>2
  | .str _=>3
  | .tup _=>4
  | .loc _=>5
noncomputable def Td:PyData→Nat
  | .int _=>2
  | .str _=>3
  | .tuple _=>4
  | _=>0
noncomputable def X5:Value→Nat
  | .none=>0
  | .bool _=>1
  | .int .. =>2
  | .str .. =>3
  | _=>4
theorem Me {h:Heap}{x:SV}{v:Value}(r:Al [] h x v):MY x=X5 v:=by
  cases x with
  | none=>exact(show v= .none from r)▸rfl
  | bool b=>exact(show v= .bool b from r)▸rfl
  | int i=>exact r.elim fun _ e=>e▸rfl
  | str s=>exact r.elim fun _ e=>e▸rfl
  | tup xs=>exact r.elim fun _ r=>r.elim fun _ r=>r.1▸rfl
  | loc l=>exact r.elim fun _ r=>nomatch r.1
theorem Wo {i:Int}:∀{d:PyData},Td d≠0→PyData.eqv (.int i) d=true→d= .int i
  | .int _,_,h=>congrArg _ (eq_of_beq h).symm
  | .bool _,k,_=>absurd rfl k
theorem Wp {s:Str}:∀{d:PyData},PyData.eqv (.str s) d=true→d= .str s
  | .str _,h=>congrArg _ (eq_of_beq h).symm
theorem Wq {ds:List PyData}:∀{d:PyData},PyData.eqv (.tuple ds) d=true→∃es,d= .tuple es∧PyData.eqvAll ds es=true
  | .tuple es,h=>⟨es,rfl,h⟩
theorem OP {n:Nat}{y:SV}(k:y.isKeyD n=true):Td (Do y)=MY y∧MY y≠0:=
  (EN (P:=fun _ y=>Td (Do y)=MY y∧MY y≠0) (Q:=fun _ _=>True) (fun _ _=>⟨rfl,nofun⟩) (fun _ _=>⟨rfl,nofun⟩) (fun _ _ _=>⟨rfl,nofun⟩) (fun _=>trivial) fun _ _ _ _ _=>trivial).1 n y k
theorem Vp {n:Nat}{y:SV}{es:List PyData}(k:y.isKeyD n=true)(e:Do y= .tuple es):∃m ys,n=m+1∧y= .tup ys∧SV.areKeysD m ys=true∧Fd ys=es:=by
  cases y with
  | tup ys=>
    cases n with
    | zero=>exact nomatch k
    | succ n=>exact⟨n,ys,rfl,rfl,k,PyData.tuple.inj e⟩
  | _=>exact nomatch e
theorem Vq {y:SV}{i:Int}(e:Do y= .int i):y= .int i:=by
  cases y with
  | int j=>exact congrArg _ (PyData.int.inj e)
  | _=>exact nomatch e
theorem Vr {y:SV}{i:String}(e:Do y= .str (Str.ofString i)):y= .str i:=by
  cases y with
  | str j=>exact congrArg _ (DF (PyData.str.inj e))
  | _=>exact nomatch e
theorem Qq:(∀(n:Nat) (x:SV),x.isKeyD n=true→∀m y,y.isKeyD m=true→PyData.eqv (Do x) (Do y)=true→x=y)∧
    ∀(n:Nat) (xs:List SV),SV.areKeysD n xs=true→∀m ys,SV.areKeysD m ys=true→PyData.eqvAll (Fd xs) (Fd ys)=true→xs=ys:=by
  refine EN (fun n i m y k e=>(Vq (Wo ?_ e)).symm) (fun n s m y k e=>(Vr (Wp e)).symm) (fun n xs ih m y k e=>?_) (fun n m ys k e=>?_) fun n x xs ih1 ih2 m ys k e=>?_
  · rw[(OP k).1]; exact(OP k).2
  · obtain⟨es,e1,e2⟩:=Wq e
    obtain⟨j,ys,_,e3,k1,e4⟩:=Vp k e1
    rw[e3,ih j ys k1 (e4▸e2)]
  · cases ys with
    | nil=>rfl
    | cons y ys=>exact nomatch e
  · cases ys with
    | nil=>exact nomatch e
    | cons y ys=>rw[ih1 m y (Bool.and_eq_true_iff.mp k).1 (Bool.and_eq_true_iff.mp e).1,ih2 m ys (Bool.and_eq_true_iff.mp k).2 (Bool.and_eq_true_iff.mp e).2]
theorem N7 (n m:Nat)(x y:SV)(kx:x.isKeyD n=true)(ky:y.isKeyD m=true):PyData.eqv (Do x) (Do y)=decide (x=y):=by
  by_cases e:x=y
  · rw[decide_eq_true e,e]; exact SeqAt.eqv_refl _ (Ga m y ky)
  · rw[decide_eq_false e]; exact Bool.eq_false_iff.mpr fun q=>e (Qq.1 n x kx m y ky q)
theorem Vs (n m:Nat)(xs ys:List SV)(kx:SV.areKeysD n xs=true)(ky:SV.areKeysD m ys=true):PyData.eqvAll (Fd xs) (Fd ys)=decide (xs=ys):=by
  by_cases e:xs=ys
  · rw[decide_eq_true e,e]; exact SeqAt.eqvAll_refl _ (Md.2 m ys ky).1
  · rw[decide_eq_false e]; exact Bool.eq_false_iff.mpr fun q=>e (Qq.2 n xs kx m ys ky q)
theorem Wr {h:Heap}{y:SV}{a:Addr}(r:Al [] h y (.ref a)):∃ys items,y= .tup ys∧h.IsTuple a items∧Ak [] h ys items.toList:=by
  cases y with
  | tup ys=>obtain⟨b,items,e,h1,h2⟩:=r; exact⟨ys,items,rfl,(Value.ref.inj e).symm▸h1,h2⟩
  | loc l=>exact r.elim fun _ r=>nomatch r.1
  | _=>exact absurd (Me r) (by intro e; exact nomatch e)
theorem Wt {h:Heap}{y:SV}{i:Int}{t:Tok}(r:Al [] h y (.int i t)):y= .int i:=by
  cases y with
  | int j=>exact r.elim fun _ e=>congrArg _ (Value.int.inj e).1.symm
  | loc l=>exact r.elim fun _ r=>nomatch r.1
  | _=>exact absurd (Me r) (by intro e; exact nomatch e)
theorem Wu {h:Heap}{y:SV}{i:String}{t:Tok}(r:Al [] h y (.str (Str.ofString i) t)):y= .str i:=by
  cases y with
  | str j=>exact r.elim fun _ e=>congrArg _ (DF (Value.str.inj e).1.symm)
  | loc l=>exact r.elim fun _ r=>nomatch r.1
  | _=>exact absurd (Me r) (by intro e; exact nomatch e)
theorem Te {h:Heap}{a:Addr}{i j:Array Value}(p:h.IsTuple a i)(q:h.IsTuple a j):i=j:=by
  obtain⟨o,ho,_,k,hd⟩:=p
  obtain⟨o',ho',_,k',hd'⟩:=q
  have e:=Option.some.inj (ho.symm.trans ho')
  exact(Data.seq.inj (hd.symm.trans (e▸hd'))).1
theorem Ug {h:Heap}:(∀(n:Nat) (x:SV),x.isKeyD n=true→∀y v,Al [] h x v→Al [] h y v→x=y)∧∀(n:Nat) (xs:List SV),SV.areKeysD n xs=true→∀ys vs,Ak [] h xs vs→Ak [] h ys vs→xs=ys:=by
  refine EN (fun n i y v r r'=>?_) (fun n i y v r r'=>?_) (fun n xs ih y v r r'=>?_) (fun n ys vs r r'=>?_) fun n x xs ih1 ih2 ys vs r r'=>?_
  · obtain⟨t,e⟩:=r; exact(Wt (e▸r')).symm
  · obtain⟨t,e⟩:=r; exact(Wu (e▸r')).symm
  · obtain⟨a,items,e,p,q⟩:=r
    obtain⟨ys,items',e',p',q'⟩:=Wr (e▸r')
    rw[e',ih ys _ q (Te p' p▸q')]
  · cases ys with
    | nil=>rfl
    | cons y ys=>exact r'.elim fun _ e=>e.elim fun _ e=>nomatch (show vs= [] from r).symm.trans e.1
  · obtain⟨v,r,e,h1,h2⟩:=r
    cases ys with
    | nil=>exact nomatch e.symm.trans (show vs= [] from r')
    | cons y ys=>
      have q:=Ak.cons'.mp (e▸r')
      rw[ih1 y v h1 q.1,ih2 ys r h2 q.2]
theorem Vt {h:Heap}{n:Nat}{x y:SV}{v:Value}(k:x.isKeyD n=true)(r:Al [] h x v)(r':Al [] h y v):x=y:=Ug.1 n x k y v r r'
mutual
noncomputable def MZ (w:World):SV→Int
  | .int i=>hashInt i
  | .str s=>hashStr w (Str.ofString s)
  | .tup xs=>reduceHash (Builtin.Tuple.tupleHashOf (Et w xs))
  | .none=>0
  | .bool _=>0
  | .loc _=>0
noncomputable def Et (w:World):List SV→List Int
  | []=> []
  | x::xs=>MZ w x::Et w xs
end
mutual
noncomputable def La:SV→Nat
  | .tup xs=>HN xs+1
  | .int _=>1
  | .str _=>1
  | .none=>1
  | .bool _=>1
  | .loc _=>1
noncomputable def HN:List SV→Nat
  | []=>0
  | x::xs=>La x+HN xs
end
section
variable {prog:Program}{w:World}{E:Value→Shared→Prop}
theorem M0 {s:Shared}{a:Addr}{items:Array Value}(h:s.heap.IsTuple a items):s.TypeIs (.ref a) "tuple" :=let ⟨o,ho,hc,_⟩:=h; ⟨o,ho,hc⟩
theorem Uh:(∀(n:Nat) (x:SV),x.isKeyD n=true→∀(A:Around) (s:Shared) (v:Value) (Q:Int→Shared→Prop),A.units+n<cLine→Al [] s.heap x v→Q (MZ w x) { s with toks:=s.toks+La x }→wpAny (model prog w) A (pyHash v) Q E s)∧
    ∀(n:Nat) (xs:List SV),SV.areKeysD n xs=true→∀(A:Around) (s:Shared) (vs:List Value) (b:Array Int) (Q:Array Int→Shared→Prop) (f:Value→Array Int→Sem (ForInStep (Array Int))),(∀v b,f v b=(do let i ←pyHash v; pure (.yield (b.push i))))→A.units+n<cLine→
      Ak [] s.heap xs vs→(∀b',b'.toList=b.toList++Et w xs→Q b' { s with toks:=s.toks+HN xs })→wpAny (model prog w) A (forIn vs b f) Q E s:=by
  refine EN (fun n i A s v Q _ r h=>?_) (fun n i A s v Q _ r h=>?_) (fun n xs ih A s v Q hu r h=>?_) (fun n A s vs b Q f hf _ r h=>?_) fun n x xs ih1 ih2 A s vs b Q f hf hu r h=>?_
  · obtain⟨t,e⟩:=r
    rw[e]; exact wpAny_pyHash_int h
  · obtain⟨t,e⟩:=r
    rw[e]; exact wpAny_pyHash_str h
  · obtain⟨a,items,e,hI,h2⟩:=r
    rw[e]
    have hT:=M0 hI
    obtain⟨o,ho,hc,m,hd⟩:=hI
    unfold pyHash
    unfold pyHashByItsType
    refine wpAny_bind (wpAny_cRoomFor_or (.inr (Nat.lt_of_le_of_lt (Nat.le_add_right _ _) hu)) ?_)
    refine wpAny_bind (wpAny_specialOf hT F.slot_tuple_hash.lookup ?_)
    show wpAny _ _ (if(some (Value.builtin "tuple.__hash__")==some Value.none)=true then _ else _) Q E s
    rw[if_neg (by rw[beq_builtin_none]; exact Bool.false_ne_true)]
    refine wpAny_bind (wpAny_specialOf hT F.slot_tuple_hash.lookup ?_)
    show wpAny _ _ (callSpecialIfBoundUnlessNone? (.ref a) "__hash__" _ >>= _) Q E s
    refine wpAny_bind (wpAny_callSpecialIfBoundUnlessNone?_slot hT F.slot_tuple_hash (wpAny_call_entry F.slot_tuple_hash hT F.entry_tuple_hash ?_ (F.args_tuple_hash_1 _)))
    show wpAny _ _ (Builtin.Tuple.tupleItemsOf (.ref a) >>= _) _ _ s
    refine wpAny_bind (wpAny_tupleItemsOf ho hd (wpAny_bind ?_))
    rw[←Array.forIn_toList]
    refine ih _ s items.toList _ _ _ (fun v b=>rfl) (by show A.units+1+n<cLine; omega) h2 fun b' hb'=>?_
    show wpAny _ _ (retInt (Builtin.Tuple.tupleHashOf b'.toList)) _ _ _
    rw[hb']
    refine wpAny_ret_mkInt ?_
    replace h:Q (if(decide (-(2:Int)^63≤Builtin.Tuple.tupleHashOf (Et w xs))&&decide (Builtin.Tuple.tupleHashOf (Et w xs)<2^63))=true then _ else _) _:=h
    show wpAny _ _ (if(decide (-(2:Int)^63≤Builtin.Tuple.tupleHashOf (Et w xs))&&decide (Builtin.Tuple.tupleHashOf (Et w xs)<2^63))=true then _ else _) Q E _
    by_cases hr:(decide (-(2:Int)^63≤Builtin.Tuple.tupleHashOf (Et w xs))&&decide (Builtin.Tuple.tupleHashOf (Et w xs)<2^63))=true
    · rw[if_pos hr]
      rw[if_pos hr] at h
      exact wpAny_pure h
    · rw[if_neg hr]
      rw[if_neg hr] at h
      exact wpAny_bind (wpAny_rule (wpAny_pure h))
  · rw[show vs= [] from r,List.forIn_nil]
    exact wpAny_pure (h b (List.append_nil _).symm)
  · obtain⟨v,r,e,h1,h2⟩:=r
    rw[e,List.forIn_cons,hf]
    refine wpAny_bind (wpAny_bind (ih1 A s v _ hu h1 (wpAny_pure ?_)))
    refine ih2 A _ r (b.push (MZ w x)) Q f hf hu h2 fun b' hb'=>?_
    have:=h b' (by rw[hb',Array.toList_push,List.append_assoc]; rfl)
    rw[show HN (x::xs)=La x+HN xs from rfl, ←Nat.add_assoc] at this
    exact this
theorem Tf:(∀(n:Nat) (x:SV),x.isKeyD n=true→∀(m:Nat) (A:Around) (s:Shared) (v:Value) (Q:Bool→Shared→Prop),n≤m→Al [] s.heap x v→Q true s→wpAny (model prog w) A (eqIsQuiet m v) Q E s)∧
    ∀(n:Nat) (xs:List SV),SV.areKeysD n xs=true→∀(m:Nat) (A:Around) (s:Shared) (vs:List Value) (Q:Option Bool×PUnit→Shared→Prop) (f:Value→Option Bool×PUnit→Sem (ForInStep (Option Bool×PUnit))),n≤m→
      (∀v b,f v b=(do let c ←eqIsQuiet m v; if(!c)=true then pure (.done (some false,⟨⟩)) else pure (.yield (none,⟨⟩))))→Ak [] s.heap xs vs→Q (none,⟨⟩) s→wpAny (model prog w) A (forIn vs (none,⟨⟩) f) Q E s:=by
  refine EN (fun n i m A s v Q _ r h=>?_) (fun n i m A s v Q _ r h=>?_) (fun n xs ih m A s v Q hm r h=>?_) (fun n m A s vs Q f _ _ r h=>?_) fun n x xs ih1 ih2 m A s vs Q f hm hf r h=>?_
  · obtain⟨t,e⟩:=r
    rw[e,eqIsQuiet_byValue m rfl]; exact wpAny_pure h
  · obtain⟨t,e⟩:=r
    rw[e,eqIsQuiet_byValue m rfl]; exact wpAny_pure h
  · obtain⟨a,items,e,hI,h2⟩:=r
    rw[e]
    have hT:=M0 hI
    obtain⟨o,ho,hc,k,hd⟩:=hI
    cases m with
    | zero=>exact absurd hm (Nat.not_succ_le_zero n)
    | succ m=>
    unfold eqIsQuiet
    refine wpAny_bind (wpAny_specialOf hT F.slot_tuple_eq.lookup ?_)
    show wpAny _ _ (isInstance (.ref a) (.type "tuple") >>= _) _ _ s
    refine wpAny_bind (wpAny_isInstance hT isSubtype_tuple_tuple ?_)
    rw[if_neg (by decide)]
    refine wpAny_bind (wpAny_seqItems ho hd (wpAny_bind ?_))
    show wpAny _ _ (forIn items _ _) _ _ s
    rw[←Array.forIn_toList]
    exact ih m A s items.toList _ _ (Nat.le_of_succ_le_succ hm) (fun v b=>rfl) h2 (wpAny_pure h)
  · rw[show vs= [] from r,List.forIn_nil]
    exact wpAny_pure h
  · obtain⟨v,r,e,h1,h2⟩:=r
    rw[e,List.forIn_cons,hf]
    exact wpAny_bind (wpAny_bind (ih1 m A s v _ hm h1 (wpAny_pure (ih2 m A s r Q f hm hf h2 h))))
end
theorem Ui:(∀(n:Nat) (x:SV),x.isKeyD n=true→∀m,n≤m→x.isKeyD m=true)∧∀(n:Nat) (xs:List SV),SV.areKeysD n xs=true→∀m,n≤m→SV.areKeysD m xs=true:=by
  refine EN (fun _ _ _ _=>rfl) (fun _ _ _ _=>rfl) (fun n xs ih m hm=>?_) (fun _ _ _=>rfl) fun n x xs a b m hm=>Bool.and_eq_true_iff.mpr ⟨a m hm,b m hm⟩
  cases m with
  | zero=>exact absurd hm (Nat.not_succ_le_zero n)
  | succ m=>exact ih m (Nat.le_of_succ_le_succ hm)
theorem RN (n m:Nat)(x:SV)(hm:n≤m)(k:x.isKeyD n=true):x.isKeyD m=true:=Ui.1 n x k m hm
theorem BY {k:SV}(h:k.isTupKey=true):k.isKeyD (DD+1)=true:=by
  cases k with
  | tup xs=>exact h
  | _=>exact nomatch h
theorem IsTuple.other {h h':Heap}{d b:Addr}{o:Obj}{es:Array DictEntry}{ep:Nat}{items:Array Value}(ho:h.get? d=some o)(hd:o.data= .dict es ep)(hs:Heap.SameBut d h h')(hb:h.IsTuple b items):h'.IsTuple b items:=by
  obtain⟨o',ho',hc,n,hd'⟩:=hb
  refine⟨o',(hs.2 b fun e=>?_).trans ho',hc,n,hd'⟩
  rw[e,ho] at ho'
  exact nomatch (hd.symm.trans (congrArg _ (Option.some.inj ho'))).trans hd'
noncomputable def CG (prog:Program)(w:World):HeapKind prog w SV where
  is:=fun h k a=>k.isTupKey=true∧Al [] h k (.ref a)
  hash:=MZ w
  draws:=La
  room:=fun A=>A.units+64<cLine
  inj:=fun hx hy=>Vt (BY hx.1) hx.2 hy.2
  keeps:=fun x ho hd hs=>⟨x.1,x.2.mono (fun _ _ e=>e) fun _ _=>IsTuple.other ho hd hs⟩
  pyHash:=fun {A E s k a Q} hu hk h=>Uh.1 (DD+1) k (BY hk.1) A s _ Q (by simp only[DD]; omega) hk.2 h
  eqBool:=fun {A E s x y a b Q} hu hx hy h=>by
    have kx:=BY hx.1
    have ky:=BY hy.1
    refine SeqAt.eqAt_reads (Do x) (Do y) A s (.ref a) (.ref b) [] [] (Ie _ x _ kx hx.2) (Ie _ y _ ky hy.2) (Ga _ x kx) (Ga _ y ky) ?_ prog w E Q ?_
    · have:=Nat.le_trans (Nat.min_le_left _ (Do y).depth) (OO _ x kx)
      simp only[DD] at this
      omega
    · rw[N7 _ _ x y kx ky]; exact h
  quiet:=fun {A E s k a Q} hk h=>Tf.1 _ k (BY hk.1) 8 A s _ Q (by decide) hk.2 h
end Mine
namespace Mine
open scoped Classical
open PySem PySem.W PySem.Calls PyProof.Rows
open Sem (wp)
structure Base where
  prog:Program
  w:World
  K:Frag
  S:Shared
  p:Program
  loose:List Str
  mg:Str→Option Value
  mb:Str→Option Value
  cls:String→Addr
  inK:K.In S.heap
  top:TopRead p loose mg mb S.heap
section
variable (B:Base)
noncomputable def Hj (φ:Phi)(h:Heap)(kvs:List (SV×SV))(a:Addr):Prop:=
  (∃xs:List (Int×Value),h.DictOf (intKind B.prog B.w) a xs∧All2 (fun p q=>p.1=SV.int q.1∧Al φ h p.2 q.2) kvs xs)∨
  (∃xs:List (SV×Addr×Value),h.DictOfH (CG B.prog B.w) a xs∧All2 (fun p q=>p.1=q.1∧Al φ h p.2 q.2.2) kvs xs)
noncomputable def EY (φ:Phi)(h:Heap)(fs:List (String×SV))(es:List DictEntry):Prop:=
  All2 (fun f e=>(∃t,e.key= .str (Str.ofString f.1) t)∧Al φ h f.2 e.val) fs es
noncomputable def Gv (φ:Phi)(h:Heap):SObj→List Addr→Prop
  | .list xs,as=>∃a items,as= [a]∧h.PlainList a items∧Ak φ h xs items.toList∧xs.length≤lim
  | .dict kvs _,as=>∃a,as= [a]∧Hj B φ h kvs a∧kvs.length≤lim
  | .inst c fs,as=>∃a dx es n,as= [a,dx]∧h.get? a=some ⟨.ref (B.cls c),some dx,.plain, #[]⟩∧h.get? dx=some (dictOf es n)∧EY φ h fs es
structure Inv (φ:Phi) (σ:Hp) (s:Shared):Prop where
  base:∀b o,B.S.heap.get? b=some o→s.heap.get? b=some o
  gens:s.gens=B.S.gens
  os:s.os=B.S.os
  len:φ.length=σ.length
  nodup:(own φ).Nodup
  above:∀a,a∈own φ→B.S.heap.get? a=none
  mods:∀a,a∈own φ→(a==sysModules)=false
  objs:∀(i:Nat) (o:SObj) (as:List Addr),σ[i]? =some o→φ[i]? =some as→Gv B φ s.heap o as
noncomputable def Gw (σ σ':Hp)(l:Nat):Prop:=∃k k' n,σ[l]? =some (.dict k n)∧σ'[l]? =some (.dict k' n)
structure Grow (X:List Addr) (φ:Phi) (σ:Hp) (h:Heap) (φ':Phi) (σ':Hp) (h':Heap):Prop where
  ext:∃ψ,φ'=φ++ψ∧∀a,a∈own ψ→h.get? a=none
  kept:∀a o,h.get? a=some o→a∉X→(∀(l:Nat) (as:List Addr),φ[l]? =some as→a∈as→Gw σ σ' l)→h'.get? a=some o
  vers:∀(l:Nat) k n,σ[l]? =some (.dict k n)→∃k' n',σ'[l]? =some (.dict k' n')∧n≤n'
  alive:∀a o,h.get? a=some o→∃o',h'.get? a=some o'
end
variable {B:Base}{X:List Addr}{φ φ' φ1 φ2:Phi}{σ σ' σ1 σ₂:Hp}{h h' h₁ h₂:Heap}{s s' s1 s2:Shared}
theorem D5 {ψ:Phi}{l:Nat}{a:Addr}(e:Cd φ l=some a):Cd (φ++ψ) l=some a:=by
  unfold Cd at e ⊢
  cases hl:φ[l]? with
  | none=>rw[hl] at e; simp at e
  | some as=>
    rw[List.getElem?_append_left (by
      have:=(List.getElem?_eq_some_iff.mp hl).1; exact this),hl]
    rw[hl] at e; exact e
theorem Grow.addr (G:Grow X φ σ h φ' σ' h'){l:Nat}{a:Addr}(e:Cd φ l=some a):Cd φ' l=some a:=by
  obtain⟨ψ,rfl,_⟩:=G.ext
  exact D5 e
theorem Inv.phi_of (I:Inv B φ σ s){l:Nat}{o:SObj}(e:σ[l]? =some o):∃as,φ[l]? =some as∧Gv B φ s.heap o as:=by
  have hl:=(List.getElem?_eq_some_iff.mp e).1
  rw[←I.len] at hl
  exact⟨φ[l],by simp[hl],I.objs l o _ e (by simp[hl])⟩
theorem Inv.sig_of (I:Inv B φ σ s){l:Nat}{as:List Addr}(e:φ[l]? =some as):∃o,σ[l]? =some o∧Gv B φ s.heap o as:=by
  have hl:=(List.getElem?_eq_some_iff.mp e).1
  rw[I.len] at hl
  exact⟨σ[l],by simp[hl],I.objs l _ as (by simp[hl]) e⟩
theorem OQ {a:Addr}{kvs:List (SV×SV)}(D:Hj B φ h kvs a):∃ob,h.get? a=some ob∧ob.cls= .type "dict" :=
  D.elim (fun q=>q.elim fun _ q=>q.1.elim fun o q=>q.elim fun _ q=>q.elim fun _ q=>⟨o,q.1,q.2.1.1⟩) fun q=>q.elim fun _ q=>q.1.elim fun o q=>q.elim fun _ q=>q.elim fun _ q=>⟨o,q.1,q.2.1.1⟩
theorem Qr:Value.type "list" ≠Value.type "tuple" :=by decide
theorem Mf:Value.type "dict" ≠Value.type "tuple" :=by decide
theorem Gv.live {o:SObj}{as:List Addr}{a:Addr}(r:Gv B φ h o as)(ha:a∈as):∃ob,h.get? a=some ob∧ob.cls≠ .type "tuple" :=by
  cases o with
  | list xs=>
    obtain⟨b,it,e,⟨n',ho'⟩,_⟩:=r
    exact⟨_,List.mem_singleton.mp (e▸ha)▸ho',Qr⟩
  | dict kvs v=>
    obtain⟨b,e,hD,_⟩:=r
    exact(OQ hD).elim fun ob q=>⟨ob,List.mem_singleton.mp (e▸ha)▸q.1,q.2▸Mf⟩
  | inst c fs=>
    obtain⟨b,dx,es,n,e,h1,h2,_⟩:=r
    rcases List.mem_cons.mp (e▸ha) with e | ha
    · exact⟨_,e▸h1,fun q:Value.ref _=Value.type "tuple" =>nomatch q⟩
    · exact⟨_,List.mem_singleton.mp ha▸h2,Mf⟩
theorem Inv.live (I:Inv B φ σ s){a:Addr}(ha:a∈own φ):∃ob,s.heap.get? a=some ob∧ob.cls≠ .type "tuple" :=
  (Tb ha).elim fun _ q=>q.elim fun _ q=>(I.sig_of q.1).elim fun _ r=>r.2.live q.2
theorem Inv.noTuple (I:Inv B φ σ s){a:Addr}(ha:a∈own φ){items:Array Value}(ht:s.heap.IsTuple a items):False:=
  (I.live ha).elim fun _ q=>ht.elim fun _ r=>q.2 ((Option.some.inj (q.1.symm.trans r.1)).symm▸r.2.1)
theorem Kf {a:Addr}{P:Prop}(h:a∈own []):P:=nomatch (show a∈([]:List Addr) from h)
theorem Bs {α:Type}{a:α}{o:Option α}{P:Prop}(h:o=some a)(e:o=none):P:=nomatch h.symm.trans e
noncomputable def Dr (X:List Addr)(h:Heap):Prop:=∀a,a∈X→∀items,¬ h.IsTuple a items
theorem Bc:Dr [] h:=fun _ ha=>by simp at ha
theorem Grow.tup (G:Grow X φ σ s.heap φ' σ' h')(I:Inv B φ σ s)(N:Dr X s.heap){a:Addr}{items:Array Value}(ht:s.heap.IsTuple a items):h'.IsTuple a items:=by
  obtain⟨o,ho,r⟩:=ht
  refine⟨o,G.kept a o ho (fun hx=>N a hx items ⟨o,ho,r⟩) (fun l as hl hm=>?_),r⟩
  exact(I.noTuple (BL hl hm) ⟨o,ho,r⟩).elim
theorem Grow.vrep (G:Grow X φ σ s.heap φ' σ' h')(I:Inv B φ σ s)(N:Dr X s.heap){x:SV}{v:Value}(e:Al φ s.heap x v):Al φ' h' x v:=
  e.mono (fun _ _ q=>G.addr q) (fun _ _ q=>G.tup I N q)
theorem Grow.vreps (G:Grow X φ σ s.heap φ' σ' h')(I:Inv B φ σ s)(N:Dr X s.heap){x:List SV}{v:List Value}(e:Ak φ s.heap x v):Ak φ' h' x v:=
  e.mono (fun _ _ q=>G.addr q) (fun _ _ q=>G.tup I N q)
theorem Grow.refl:Grow X φ σ h φ σ h:=
  ⟨⟨[],(List.append_nil _).symm,fun _=>Kf⟩,fun _ _ e _ _=>e,fun _ k n e=>⟨k,n,e,Nat.le_refl _⟩,fun _ o e=>⟨o,e⟩⟩
theorem Gw.split (hv1:∀(l:Nat) k n,σ[l]? =some (.dict k n)→∃k' n',σ1[l]? =some (.dict k' n')∧n≤n')
    (hv2:∀(l:Nat) k n,σ1[l]? =some (.dict k n)→∃k' n',σ₂[l]? =some (.dict k' n')∧n≤n') {l:Nat} (e:Gw σ σ₂ l):Gw σ σ1 l∧Gw σ1 σ₂ l:=by
  obtain⟨k,k',n,e1,e2⟩:=e
  obtain⟨k1,n1,e3,l1⟩:=hv1 l k n e1
  obtain⟨k2,n₂,e4,l2⟩:=hv2 l k1 n1 e3
  rw[e2] at e4
  cases e4
  have:n1=n:=Nat.le_antisymm l2 l1
  subst this
  exact⟨⟨_,_,_,e1,e3⟩,⟨_,_,_,e3,e2⟩⟩
theorem Grow.trans (G:Grow X φ σ h φ1 σ1 h₁)(G':Grow X φ1 σ1 h₁ φ2 σ₂ h₂):Grow X φ σ h φ2 σ₂ h₂:=by
  obtain⟨ψ,rfl,e1⟩:=G.ext
  obtain⟨ψ',rfl,e2⟩:=G'.ext
  have back:∀a o,h.get? a=some o→∀(l:Nat) (as:List Addr),(φ++ψ)[l]? =some as→a∈as→φ[l]? =some as:=fun a o ho l as hl hm=>by
    by_cases hlt:l<φ.length
    · rwa [List.getElem?_append_left hlt] at hl
    · rw[List.getElem?_append_right (Nat.le_of_not_lt hlt)] at hl
      have:=e1 a (BL hl hm)
      rw[ho] at this; cases this
  refine⟨⟨ψ++ψ',by simp,fun a ha=>?_⟩,fun a o ho hx hl=>?_,fun l k n e=>?_,fun a o ho=>?_⟩
  · simp only[own,List.flatten_append,List.mem_append] at ha
    rcases ha with ha | ha
    · exact e1 a ha
    · cases hq:h.get? a with
      | none=>rfl
      | some o=>
        obtain⟨o',ho'⟩:=G.alive a o hq
        rw[e2 a ha] at ho'; cases ho'
  · exact G'.kept a o (G.kept a o ho hx fun l as hl' hm=>(Gw.split G.vers G'.vers (hl l as hl' hm)).1) hx
      fun l as hl' hm=>(Gw.split G.vers G'.vers (hl l as (back a o ho l as hl' hm) hm)).2
  · obtain⟨k1,n1,e3,l1⟩:=G.vers l k n e
    obtain⟨k2,n₂,e4,l2⟩:=G'.vers l k1 n1 e3
    exact⟨k2,n₂,e4,Nat.le_trans l1 l2⟩
  · obtain⟨o1,h1⟩:=G.alive a o ho
    exact G'.alive a o1 h1
theorem Kg {xs:List (SV×Addr×Value)}{a:Addr}(hk:∀ob,h.get? a=some ob→h'.get? a=some ob)(ht:∀b items,h.IsTuple b items→h'.IsTuple b items)
    (e:h.DictOfH (CG B.prog B.w) a xs):h'.DictOfH (CG B.prog B.w) a xs:=by
  obtain⟨o,es,ep,ho,hc,hd,he,his,hn⟩:=e
  exact⟨o,es,ep,hk o ho,hc,hd,he,fun x hx=>⟨(his x hx).1,(his x hx).2.mono (fun _ _ q=>q) ht⟩,hn⟩
theorem Gv.mono {o:SObj}{as:List Addr}(ha:∀l a,Cd φ l=some a→Cd φ' l=some a)(ht:∀a items,h.IsTuple a items→h'.IsTuple a items)
    (hk:∀a,a∈as→∀ob,h.get? a=some ob→h'.get? a=some ob) (e:Gv B φ h o as):Gv B φ' h' o as:=by
  cases o with
  | list xs=>
    obtain⟨a,items,e,⟨k,ho⟩,hv,hz⟩:=e
    exact⟨a,items,e,⟨k,hk a (e▸List.mem_singleton_self a) _ ho⟩,hv.mono ha ht,hz⟩
  | dict kvs v=>
    obtain⟨a,e,hD,hz⟩:=e
    have hk:=hk a (e▸List.mem_singleton_self a)
    exact⟨a,e,hD.imp (fun q=>q.elim fun xs q=>⟨xs,q.1.elim fun o r=>⟨o,r.elim fun es r=>⟨es,r.elim fun ep r=>⟨ep,hk o r.1,r.2⟩⟩⟩,q.2.mono fun _ _ z=>⟨z.1,z.2.mono ha ht⟩⟩)
      fun q=>q.elim fun xs q=>⟨xs,Kg hk ht q.1,q.2.mono fun _ _ z=>⟨z.1,z.2.mono ha ht⟩⟩,hz⟩
  | inst c fs=>
    obtain⟨a,dx,es,n,e,h1,h2,q⟩:=e
    exact⟨a,dx,es,n,e,hk a (e▸List.mem_cons_self) _ h1,hk dx (e▸List.mem_cons_of_mem _ (List.mem_singleton_self dx)) _ h2,q.mono fun _ _ z=>⟨z.1,z.2.mono ha ht⟩⟩
theorem EZ (k:∀b o,h.get? b=some o→h'.get? b=some o){a:Addr}{items:Array Value}(e:h.IsTuple a items):h'.IsTuple a items:=let ⟨o,ho,r⟩:=e; ⟨o,k a o ho,r⟩
theorem Al.keep {x:SV}{v:Value}(k:∀b o,h.get? b=some o→h'.get? b=some o)(e:Al φ h x v):Al φ h' x v:=e.mono (fun _ _ q=>q) fun _ _ q=>EZ k q
theorem Ak.keep {x:List SV}{v:List Value}(k:∀b o,h.get? b=some o→h'.get? b=some o)(e:Ak φ h x v):Ak φ h' x v:=e.mono (fun _ _ q=>q) fun _ _ q=>EZ k q
theorem Inv.keep (I:Inv B φ σ s)(k:∀b o,s.heap.get? b=some o→s'.heap.get? b=some o)(hg:s'.gens=s.gens:=by rfl)(hos:s'.os=s.os:=by rfl):Inv B φ σ s' where
  base b o e:=k b o (I.base b o e)
  gens:=hg.trans I.gens
  os:=hos.trans I.os
  len:=I.len
  nodup:=I.nodup
  above:=I.above
  mods:=I.mods
  objs i o as e1 e2:=(I.objs i o as e1 e2).mono (fun _ _ q=>q) (fun _ _ q=>EZ k q) fun a _ ob e=>k a ob e
theorem Inv.low (I:Inv B φ σ s):sysModules<s.heap.objs.size:=modules_low (B.top.nolimit.keeps I.base)
theorem Inv.newMods (I:Inv B φ σ s){a:Addr}(h:s.heap.objs.size≤a):(a==sysModules)=false:=
  beq_eq_false_iff_ne.mpr fun e=>by subst e; exact absurd I.low (Nat.not_lt.mpr h)
theorem Grow.keep (k:∀b o,h.get? b=some o→h'.get? b=some o):Grow X φ σ h φ σ h':=
  ⟨⟨[],(List.append_nil _).symm,fun _=>Kf⟩,fun a o e _ _=>k a o e,fun _ kv n e=>⟨kv,n,e,Nat.le_refl _⟩,fun a o e=>⟨o,k a o e⟩⟩
theorem DT {φ ψ:Phi}:own (φ++ψ)=own φ++own ψ:=by simp[own]
theorem HD {as:List Addr}:own [as]=as:=by simp[own]
theorem Inv.adopt {o:SObj}{as:List Addr}(I:Inv B φ σ s)(k:∀b ob,b∉as→s.heap.get? b=some ob→s'.heap.get? b=some ob)(hd:∀a,a∈as→a∉own φ)
    (hb:∀a,a∈as→B.S.heap.get? a=none) (ht:Dr as s.heap) (hnd:as.Nodup) (hO:Gv B (φ ++ [as]) s'.heap o as) (hm:∀a,a∈as→(a==sysModules)=false)
    (hg:s'.gens=s.gens:=by rfl) (hos:s'.os=s.os:=by rfl):Inv B (φ ++ [as]) (σ ++ [o]) s' where
  base b ob e:=k b ob (fun q=>Bs e (hb b q)) (I.base b ob e)
  gens:=hg.trans I.gens
  os:=hos.trans I.os
  len:=by rw[List.length_append,List.length_append,I.len]; rfl
  nodup:=by
    rw[DT,HD,List.nodup_append]
    exact⟨I.nodup,hnd,fun a ha b hb' e=>hd b hb' (e▸ha)⟩
  mods a ha:=by
    rw[DT,HD,List.mem_append] at ha
    exact ha.elim (I.mods a) (hm a)
  above a ha:=by
    rw[DT,HD,List.mem_append] at ha
    exact ha.elim (I.above a) (hb a)
  objs i ob bs e1 e2:=by
    by_cases hlt:i<φ.length
    · rw[List.getElem?_append_left hlt] at e2
      rw[List.getElem?_append_left (I.len▸hlt)] at e1
      exact(I.objs i ob bs e1 e2).mono (fun _ _ q=>D5 q) (fun a items q=>q.elim fun z q=>⟨z,k a z (fun hb=>ht a hb items ⟨z,q⟩) q.1,q.2⟩) fun a ha ob e=>k a ob (fun hb=>hd a hb (BL e2 ha)) e
    · have hge:=Nat.le_of_not_lt hlt
      rw[List.getElem?_append_right hge] at e2
      rw[List.getElem?_append_right (I.len▸hge), ←I.len] at e1
      generalize i-φ.length=z at e1 e2
      cases z with
      | zero=>exact Option.some.inj e1▸Option.some.inj e2▸hO
      | succ n=>exact nomatch e1
theorem Dx (I:Inv B φ σ s){a:Addr}(hn:s.heap.get? a=none):B.S.heap.get? a=none:=by
  cases q:B.S.heap.get? a with
  | none=>rfl
  | some o=>exact Bs (I.base a o q) hn
theorem Inv.new {o:SObj}{as:List Addr}(I:Inv B φ σ s)(k:∀b o,s.heap.get? b=some o→s'.heap.get? b=some o)(hn:∀a,a∈as→s.heap.get? a=none)(hnd:as.Nodup)
    (hO:Gv B (φ ++ [as]) s'.heap o as) (hm:∀a,a∈as→(a==sysModules)=false) (hg:s'.gens=s.gens:=by rfl) (hos:s'.os=s.os:=by rfl):Inv B (φ ++ [as]) (σ ++ [o]) s':=
  I.adopt (fun b ob _=>k b ob) (fun a ha q=>(I.live q).elim fun _ q=>Bs q.1 (hn a ha)) (fun a ha=>Dx I (hn a ha)) (fun a ha _ q=>q.elim fun _ q=>Bs q.1 (hn a ha)) hnd hO hm hg hos
theorem Grow.new {o:SObj}{as:List Addr}(k:∀b o,h.get? b=some o→h'.get? b=some o)(hn:∀a,a∈as→h.get? a=none):Grow X φ σ h (φ ++ [as]) (σ ++ [o]) h':=by
  refine⟨⟨[as],rfl,fun a ha=>by rw[HD] at ha; exact hn a ha⟩,fun a o e _ _=>k a o e,fun l kv n e=>⟨kv,n,?_,Nat.le_refl _⟩,fun a o e=>⟨o,k a o e⟩⟩
  rw[List.getElem?_append_left (List.getElem?_eq_some_iff.mp e).1]; exact e
theorem M1 {l m:Nat}{as bs:List Addr}{a:Addr}(hn:(own φ).Nodup)(h1:φ[l]? =some as)(h2:φ[m]? =some bs)(ha:a∈as)(hb:a∈bs):l=m:=by
  induction φ generalizing l m with
  | nil=>exact nomatch h1
  | cons x r ih=>
    obtain⟨_,n2,n3⟩:=List.nodup_append.mp (show(x++own r).Nodup from hn)
    cases l with
    | zero=>
      cases m with
      | zero=>rfl
      | succ m=>
        exact absurd rfl (n3 a (Option.some.inj h1▸ha) a (BL (φ:=r) h2 hb))
    | succ l=>
      cases m with
      | zero=>
        exact absurd rfl (n3 a (Option.some.inj h2▸hb) a (BL (φ:=r) h1 ha))
      | succ m=>exact congrArg (· + 1) (ih (l:=l) (m:=m) n2 h1 h2)
theorem Inv.upd {o o':SObj}{as:List Addr}{l:Nat}(I:Inv B φ σ s)(h1:σ[l]? =some o)(h2:φ[l]? =some as)
    (k:∀b ob,b∉as→s.heap.get? b=some ob→s'.heap.get? b=some ob) (hO:Gv B φ s'.heap o' as) (hg:s'.gens=s.gens:=by rfl) (hos:s'.os=s.os:=by rfl):
    Inv B φ (σ.set l o') s' where
  mods:=I.mods
  base b ob e:=k b ob (fun hb=>by rw[I.above b (BL h2 hb)] at e; cases e) (I.base b ob e)
  gens:=hg.trans I.gens
  os:=hos.trans I.os
  len:=by simp[I.len]
  nodup:=I.nodup
  above:=I.above
  objs i ob bs e1 e2:=by
    by_cases hi:i=l
    · subst hi
      rw[h2] at e2; cases e2
      rw[List.getElem?_set_self (List.getElem?_eq_some_iff.mp h1).1] at e1
      cases e1; exact hO
    · rw[List.getElem?_set_ne (fun e=>hi e.symm)] at e1
      refine(I.objs i ob bs e1 e2).mono (fun _ _ q=>q) (fun a items q=>?_) fun a ha ob e=>k a ob (fun hb=>hi (M1 I.nodup e2 h2 ha hb)) e
      obtain⟨z,hz,r⟩:=q
      exact⟨z,k a z (fun hb=>I.noTuple (BL h2 hb) ⟨z,hz,r⟩) hz,r⟩
noncomputable def Js (o o':SObj):Prop:=∀k n,o= .dict k n→∃k' n',o'= .dict k' n'∧n<n'
theorem Grow.upd {o o':SObj}{as:List Addr}{l:Nat}(h1:σ[l]? =some o)(h2:φ[l]? =some as)
    (k:∀b ob,b∉as→h.get? b=some ob→h'.get? b=some ob) (ka:∀a,a∈as→∃ob,h'.get? a=some ob) (hN:Js o o'):Grow X φ σ h φ (σ.set l o') h':=by
  have hlt:=(List.getElem?_eq_some_iff.mp h1).1
  refine⟨⟨[],(List.append_nil _).symm,fun _=>Kf⟩,fun a ob e _ hl=>?_,fun m kv n e=>?_,fun a ob e=>?_⟩
  · refine k a ob (fun ha=>?_) e
    obtain⟨kv,kv',n,e1,e2⟩:=hl l as h2 ha
    rw[h1] at e1; cases e1
    rw[List.getElem?_set_self hlt] at e2
    obtain⟨k',n',e3,e4⟩:=hN kv n rfl
    subst e3
    simp only[Option.some.injEq,SObj.dict.injEq] at e2
    omega
  · by_cases hm:m=l
    · subst hm
      rw[h1] at e; cases e
      obtain⟨k',n',rfl,e4⟩:=hN kv n rfl
      exact⟨k',n',List.getElem?_set_self hlt,Nat.le_of_lt e4⟩
    · exact⟨kv,n,by rw[List.getElem?_set_ne (fun q=>hm q.symm)]; exact e,Nat.le_refl _⟩
  · by_cases ha:a∈as
    · exact ka a ha
    · exact⟨ob,k a ob ha e⟩
theorem Js.list {xs:List SV}{o':SObj}:Js (.list xs) o':=fun _ _ e=>by cases e
theorem Js.inst {c:String}{fs:List (String×SV)}{o':SObj}:Js (.inst c fs) o':=fun _ _ e=>by cases e
theorem Js.dict {k k':List (SV×SV)}{n:Nat}:Js (.dict k n) (.dict k' (n+1)):=fun _ _ e=>by cases e; exact⟨_,_,rfl,Nat.lt_succ_self _⟩
end Mine
namespace Mine
open scoped Classical
open PySem PySem.W PySem.Calls PyProof.Rows
open Sem (wp)
abbrev BO (B:Base)(X:List Addr)(φ:Phi)(σ:Hp)(h:Heap)(x:SV)(σ':Hp):Value→Shared→Prop:=
  fun v s'=>∃φ',Grow X φ σ h φ' σ' s'.heap∧Inv B φ' σ' s'∧Al φ' s'.heap x v
abbrev IW (B:Base)(X:List Addr)(φ:Phi)(σ:Hp)(h:Heap)(xs:List SV)(σ':Hp):List Value→Shared→Prop:=
  fun vs s'=>∃φ',Grow X φ σ h φ' σ' s'.heap∧Inv B φ' σ' s'∧Ak φ' s'.heap xs vs
abbrev Gb (B:Base)(X:List Addr)(φ:Phi)(σ:Hp)(h:Heap)(σ':Hp):Shared→Prop:=
  fun s'=>∃φ',Grow X φ σ h φ' σ' s'.heap∧Inv B φ' σ' s'
structure EnvOK (sc:Scope) (env:Env):Prop where
  scope:env.scope=sc
  kind:sc.kind= .function
  globals:env.globals=mainGlobals
  builtins:env.builtins=builtinsNs
noncomputable def Bx (env:Env):List Addr:=env.locals::env.cells.map (·.2)
noncomputable def Kh (env:Env)(h:Heap)(m:Str→Option Value)(x:Str)(v:Value):Prop:=
  (env.kindOf x=some .local∧m x=some v)∨(env.kindOf x=some .cell∧∃c,env.cells.lookup x=some c∧h.IsCell c (some v))
structure FrameOK (B:Base) (env:Env) (ρ:Rho) (φ:Phi) (h:Heap):Prop where
  ns:∃m,h.Ns env.locals m∧∀x v,ρ.lookup x=some v→∃u,Kh env h m (Str.ofString x) u∧Al φ h v u
  cells:∀x,env.kindOf x=some .cell→∃c v,env.cells.lookup x=some c∧h.IsCell c v
  apart:env.cells.Pairwise fun x y=>x.2≠y.2
  alive:∀x c,(x,c)∈env.cells→∃v,h.IsCell c v
  notOwn:∀a,a∈Bx env→a∉own φ
  above:∀a,a∈Bx env→B.S.heap.get? a=none
noncomputable def By (A:Around)(n:Nat):Prop:=A.depth+4*n+20<recursionLimit∧A.units+40*n+400<cLine∧A.handled=none
theorem By.units (r:By A n):A.units+300<cLine:=by have:=r.2.1; omega
theorem By.handled (r:By A n):A.handled=none:=r.2.2
theorem By.depth (r:By A n):A.depth<recursionLimit:=by have:=r.1; omega
noncomputable def Av (B:Base)(n:Nat)(sc:Scope)(e:Expr)(m:Ev):Prop:=
  ∀(A:Around) (E:Value→Shared→Prop) (env:Env) (s:Shared) (φ:Phi) (σ:Hp) (ρ:Rho) (x:SV) (σ':Hp),EnvOK sc env→By A n→Inv B φ σ s→FrameOK B env ρ φ s.heap→
    m ρ σ=some (x,σ')→wpAny (model B.prog B.w) A (eval e env) (BO B [] φ σ s.heap x σ') E s
noncomputable def DU (B:Base)(n:Nat)(sc:Scope)(es:List Expr)(ms:List Ev):Prop:=
  ∀(A:Around) (E:Value→Shared→Prop) (env:Env) (s:Shared) (φ:Phi) (σ:Hp) (ρ:Rho) (xs:List SV) (σ':Hp),EnvOK sc env→By A n→Inv B φ σ s→FrameOK B env ρ φ s.heap→
    evs ms ρ σ=some (xs,σ')→∀pos,wpAny (model B.prog B.w) A (spliced (backTo pos (starEach es env))) (IW B [] φ σ s.heap xs σ') E s
noncomputable def Eb (B:Base)(n:Nat)(sc:Scope)(e:Expr)(t:Tv):Prop:=
  ∀(A:Around) (E:Value→Shared→Prop) (env:Env) (s:Shared) (φ:Phi) (σ:Hp) (ρ:Rho) (b:Bool) (σ':Hp),EnvOK sc env→By A n→Inv B φ σ s→FrameOK B env ρ φ s.heap→
    t ρ σ=some (b,σ')→wpAny (model B.prog B.w) A (isTrue e env (eval e env)) (fun b' s'=>b'=b∧Gb B [] φ σ s.heap σ' s') E s
noncomputable def N8 (φ:Phi)(h:Heap):Flw→Flow→Prop
  | .next,f=>f= .next
  | .ret x,f=>∃v,f= .ret v∧Al φ h x v
abbrev Gd (B:Base)(env:Env)(φ:Phi)(σ:Hp)(h:Heap)(f:Flw)(ρ':Rho)(σ':Hp):Flow→Shared→Prop:=
  fun fl s'=>∃φ',Grow (Bx env) φ σ h φ' σ' s'.heap∧Inv B φ' σ' s'∧FrameOK B env ρ' φ' s'.heap∧N8 φ' s'.heap f fl
noncomputable def Ec (B:Base)(n:Nat)(sc:Scope)(st:Stmt)(m:Ex):Prop:=
  ∀(A:Around) (E:Value→Shared→Prop) (env:Env) (s:Shared) (φ:Phi) (σ:Hp) (ρ:Rho) (f:Flw) (ρ':Rho) (σ':Hp),EnvOK sc env→By A n→Inv B φ σ s→FrameOK B env ρ φ s.heap→
    m ρ σ=some (f,ρ',σ')→wpAny (model B.prog B.w) A (exec st env) (Gd B env φ σ s.heap f ρ' σ') E s
noncomputable def EE (B:Base)(n:Nat)(sc:Scope)(sts:List Stmt)(m:Ex):Prop:=
  ∀(A:Around) (E:Value→Shared→Prop) (env:Env) (s:Shared) (φ:Phi) (σ:Hp) (ρ:Rho) (f:Flw) (ρ':Rho) (σ':Hp),EnvOK sc env→By A n→Inv B φ σ s→FrameOK B env ρ φ s.heap→
    m ρ σ=some (f,ρ',σ')→wpAny (model B.prog B.w) A (execs sts env) (Gd B env φ σ s.heap f ρ' σ') E s
noncomputable def Be (B:Base)(n:Nat)(f:Value)(fn:Fn):Prop:=
  ∀(A:Around) (E:Value→Shared→Prop) (s:Shared) (φ:Phi) (σ:Hp) (xs:List SV) (vs:List Value) (x:SV) (σ':Hp),By A n→Inv B φ σ s→Ak φ s.heap xs vs→
    fn xs σ=some (x,σ')→codeAny (model B.prog B.w) A (.call f ⟨vs, []⟩) (fun r s'=>match r with | .ok (.ret v)=>BO B [] φ σ s.heap x σ' v s' | .ok _=>False | .error e=>E e s') s
variable {B:Base}{X:List Addr}{φ φ' φ1 φ2:Phi}{σ σ' σ1 σ₂:Hp}{h h' h₁ h₂:Heap}{s s' s1 s2:Shared}{n:Nat}{sc:Scope}{env:Env}{ρ ρ':Rho}{A:Around}{E:Value→Shared→Prop}
theorem IsCell.noTup {c:Addr}{v:Option Value}(hc:h.IsCell c v)(items:Array Value):¬ h.IsTuple c items:=by
  intro hrin; obtain⟨o,ho,_,k,hd⟩:=hrin
  obtain⟨o',ho',hd'⟩:=hc
  rw[ho] at ho'; cases ho'
  rw[hd] at hd'; cases hd'
theorem Ns.noTup {c:Addr}{m:Str→Option Value}(hc:h.Ns c m)(items:Array Value):¬ h.IsTuple c items:=by
  intro hrin; obtain⟨o,ho,_,k,hd⟩:=hrin
  obtain⟨o',es,ep,ho',hd',_⟩:=hc
  rw[ho] at ho'; cases ho'
  rw[hd] at hd'; cases hd'
theorem FrameOK.noTups (F:FrameOK B env ρ φ h):Dr (Bx env) h:=by
  intro a ha items
  obtain⟨m,hn,_⟩:=F.ns
  rcases List.mem_cons.mp ha with rfl | ha
  · exact Ns.noTup hn items
  · obtain⟨p,hp,rfl⟩:=List.mem_map.mp ha
    obtain⟨v,hv⟩:=F.alive p.1 p.2 hp
    exact IsCell.noTup hv items
theorem FrameOK.grow (F:FrameOK B env ρ φ s.heap)(I:Inv B φ σ s)(G:Grow X φ σ s.heap φ' σ' h')(N:Dr X s.heap)(hx:∀a,a∈Bx env→a∉X):FrameOK B env ρ φ' h':=by
  have keep:∀a,a∈Bx env→∀o,s.heap.get? a=some o→h'.get? a=some o:=fun a ha o e=>
    G.kept a o e (hx a ha) fun l as hl hm=>(F.notOwn a ha (BL hl hm)).elim
  have kc:∀x c v,(x,c)∈env.cells→s.heap.IsCell c v→h'.IsCell c v:=fun x c v hm hc=>by
    obtain⟨o,ho,hd⟩:=hc
    exact⟨o,keep c (List.mem_cons_of_mem _ (List.mem_map.mpr ⟨_,hm,rfl⟩)) o ho,hd⟩
  obtain⟨m,hn,hv⟩:=F.ns
  refine⟨⟨m,?_,fun x v e=>?_⟩,fun x e=>?_,F.apart,fun x c hm=>?_,fun a ha=>?_,F.above⟩
  · obtain⟨o,es,ep,ho,r⟩:=hn
    exact⟨o,es,ep,keep _ List.mem_cons_self o ho,r⟩
  · obtain⟨u,hu,hr⟩:=hv x v e
    refine⟨u,?_,G.vrep I N hr⟩
    rcases hu with hu | ⟨h1,c,h2,h3⟩
    · exact .inl hu
    · exact .inr ⟨h1,c,h2,kc _ c _ (mem_of_lookup h2) h3⟩
  · obtain⟨c,v,h1,h2⟩:=F.cells x e
    exact⟨c,v,h1,kc _ c _ (mem_of_lookup h1) h2⟩
  · obtain⟨v,hv⟩:=F.alive x c hm
    exact⟨v,kc x c v hm hv⟩
  · obtain⟨ψ,rfl,hψ⟩:=G.ext
    rw[DT,List.mem_append]
    rintro(q | q)
    · exact F.notOwn a ha q
    · have:=hψ a q
      rcases List.mem_cons.mp ha with rfl | ha'
      · obtain⟨o,es,ep,ho,_⟩:=hn
        rw[ho] at this; cases this
      · obtain⟨p,hp,rfl⟩:=List.mem_map.mp ha'
        obtain⟨v,o,ho,_⟩:=F.alive p.1 p.2 hp
        rw[ho] at this; cases this
theorem FrameOK.grow' (F:FrameOK B env ρ φ s.heap)(I:Inv B φ σ s)(G:Grow [] φ σ s.heap φ' σ' h'):FrameOK B env ρ φ' h':=
  F.grow I G Bc fun _ _ q=>by simp at q
theorem Grow.weaken (G:Grow X φ σ h φ' σ' h'){Y:List Addr}(hy:∀a,a∈X→a∈Y):Grow Y φ σ h φ' σ' h':=
  ⟨G.ext,fun a o e hx hl=>G.kept a o e (fun q=>hx (hy a q)) hl,G.vers,G.alive⟩
theorem Grow.any (G:Grow [] φ σ h φ' σ' h'):Grow X φ σ h φ' σ' h':=G.weaken fun _ q=>by simp at q
theorem Grow.fresh (G:Grow X φ σ h φ' σ' h'){a:Addr}(e:h'.get? a=none):h.get? a=none:=by
  cases q:h.get? a with
  | none=>rfl
  | some o=>obtain⟨o',ho'⟩:=G.alive a o q; rw[e] at ho'; cases ho'
theorem Ge {x:SV}{v:Value}(I:Inv B φ σ s)(k:∀b o,s.heap.get? b=some o→s'.heap.get? b=some o)(r:Al φ s'.heap x v)
    (hg:s'.gens=s.gens:=by rfl) (hos:s'.os=s.os:=by rfl):BO B X φ σ s.heap x σ v s':=⟨φ,.keep k,I.keep k hg hos,r⟩
theorem BS {x:SV}{v:Value}{t:Nat}(I:Inv B φ σ s)(r:Al φ s.heap x v):BO B X φ σ s.heap x σ v { s with toks:=t }:=
  ⟨φ,.keep fun _ _ e=>e,I.keep fun _ _ e=>e,r⟩
theorem Jt {as:List Addr}{a:Addr}(I:φ.length=σ.length):Cd (φ ++ [a::as]) σ.length=some a:=by
  unfold Cd; rw[←I,List.getElem?_append_right (Nat.le_refl _),Nat.sub_self]; rfl
theorem Ig {o:SObj}{a:Addr}{r:List Addr}{v:Value}(I:Inv B φ σ s)(k:∀b o,s.heap.get? b=some o→s'.heap.get? b=some o)(hn:∀b,b∈a::r→s.heap.get? b=none)(hnd:(a::r).Nodup)
    (hO:Gv B (φ ++ [a::r]) s'.heap o (a::r)) (hv:v= .ref a) (hm:∀b,b∈a::r→s.heap.objs.size≤b) (hg:s'.gens=s.gens:=by rfl) (hos:s'.os=s.os:=by rfl):BO B X φ σ s.heap (.loc σ.length) (σ ++ [o]) v s':=
  ⟨φ ++ [a::r],.new k hn,I.new k hn hnd hO (fun b hb=>I.newMods (hm b hb)) hg hos,a,Jt I.len,hv⟩
theorem BO.then {x:SV}{v:Value}(G:Grow [] φ σ h φ1 σ1 h₁)(q:BO B [] φ1 σ1 h₁ x σ₂ v s'):BO B [] φ σ h x σ₂ v s':=by
  obtain⟨φ',G',I',r⟩:=q
  exact⟨φ',G.trans G',I',r⟩
section
variable {ρ1:Rho}{Q:Value→Shared→Prop}
theorem Av.run {e:Expr}{m:Ev}{x:SV}(he:Av B n sc e m)(O:EnvOK sc env)(R:By A n)(I:Inv B φ σ s)(F:FrameOK B env ρ φ s.heap)(hm:m ρ σ=some (x,σ1))
    (k:∀v s1 φ1,Grow [] φ σ s.heap φ1 σ1 s1.heap→Inv B φ1 σ1 s1→Al φ1 s1.heap x v→FrameOK B env ρ φ1 s1.heap→Q v s1):wpAny (model B.prog B.w) A (eval e env) Q E s:=
  wpAny_mono (he A E env s φ σ ρ x σ1 O R I F hm) (fun v s1 q=>q.elim fun φ1 q=>k v s1 φ1 q.1 q.2.1 q.2.2 (F.grow' I q.1)) fun _ _ q=>q
theorem DU.run {es:List Expr}{ms:List Ev}{xs:List SV}{Q:List Value→Shared→Prop}{pos:Pos}(he:DU B n sc es ms)(O:EnvOK sc env)(R:By A n)(I:Inv B φ σ s)(F:FrameOK B env ρ φ s.heap)(hm:evs ms ρ σ=some (xs,σ1))
    (k:∀vs s1 φ1,Grow [] φ σ s.heap φ1 σ1 s1.heap→Inv B φ1 σ1 s1→Ak φ1 s1.heap xs vs→FrameOK B env ρ φ1 s1.heap→Q vs s1):wpAny (model B.prog B.w) A (spliced (backTo pos (starEach es env))) Q E s:=
  wpAny_mono (he A E env s φ σ ρ xs σ1 O R I F hm pos) (fun v s1 q=>q.elim fun φ1 q=>k v s1 φ1 q.1 q.2.1 q.2.2 (F.grow' I q.1)) fun _ _ q=>q
theorem Eb.run {e:Expr}{t:Tv}{b:Bool}{Q:Bool→Shared→Prop}(he:Eb B n sc e t)(O:EnvOK sc env)(R:By A n)(I:Inv B φ σ s)(F:FrameOK B env ρ φ s.heap)(hm:t ρ σ=some (b,σ1))
    (k:∀s1 φ1,Grow [] φ σ s.heap φ1 σ1 s1.heap→Inv B φ1 σ1 s1→FrameOK B env ρ φ1 s1.heap→Q b s1):wpAny (model B.prog B.w) A (isTrue e env (eval e env)) Q E s:=
  wpAny_mono (he A E env s φ σ ρ b σ1 O R I F hm) (fun _ s1 q=>q.1▸q.2.elim fun φ1 q=>k s1 φ1 q.1 q.2 (F.grow' I q.1)) fun _ _ q=>q
theorem Ec.run {st:Stmt}{m:Ex}{f:Flw}{Q:Flow→Shared→Prop}(he:Ec B n sc st m)(O:EnvOK sc env)(R:By A n)(I:Inv B φ σ s)(F:FrameOK B env ρ φ s.heap)(hm:m ρ σ=some (f,ρ1,σ1))
    (k:∀fl s1 φ1,Grow (Bx env) φ σ s.heap φ1 σ1 s1.heap→Inv B φ1 σ1 s1→FrameOK B env ρ1 φ1 s1.heap→N8 φ1 s1.heap f fl→Q fl s1):wpAny (model B.prog B.w) A (exec st env) Q E s:=
  wpAny_mono (he A E env s φ σ ρ f ρ1 σ1 O R I F hm) (fun v s1 q=>q.elim fun φ1 q=>k v s1 φ1 q.1 q.2.1 q.2.2.1 q.2.2.2) fun _ _ q=>q
theorem EE.run {st:List Stmt}{m:Ex}{f:Flw}{Q:Flow→Shared→Prop}(he:EE B n sc st m)(O:EnvOK sc env)(R:By A n)(I:Inv B φ σ s)(F:FrameOK B env ρ φ s.heap)(hm:m ρ σ=some (f,ρ1,σ1))
    (k:∀fl s1 φ1,Grow (Bx env) φ σ s.heap φ1 σ1 s1.heap→Inv B φ1 σ1 s1→FrameOK B env ρ1 φ1 s1.heap→N8 φ1 s1.heap f fl→Q fl s1):wpAny (model B.prog B.w) A (execs st env) Q E s:=
  wpAny_mono (he A E env s φ σ ρ f ρ1 σ1 O R I F hm) (fun v s1 q=>q.elim fun φ1 q=>k v s1 φ1 q.1 q.2.1 q.2.2.1 q.2.2.2) fun _ _ q=>q
end
theorem CP {x:SV}{c:Sem Value}(G:Grow [] φ σ h φ1 σ1 h₁)(q:wpAny (model B.prog B.w) A c (BO B [] φ1 σ1 h₁ x σ₂) E s):wpAny (model B.prog B.w) A c (BO B [] φ σ h x σ₂) E s:=
  wpAny_mono q (fun _ _ q=>q.then G) fun _ _ q=>q
theorem Tg {e:Expr}{m:Ev}{f:SV→Hp→Option (SV×Hp)}{g:Env→Value→Sem Value}(he:Av B n sc e m)
    (hf:∀(A:Around) (E:Value→Shared→Prop) (env:Env) (s:Shared) (φ:Phi) (σ:Hp) (ρ:Rho) (x:SV) (v:Value) (y:SV) (σ':Hp),EnvOK sc env→By A n→Inv B φ σ s→FrameOK B env ρ φ s.heap→Al φ s.heap x v→
      f x σ=some (y,σ')→wpAny (model B.prog B.w) A (g env v) (BO B [] φ σ s.heap y σ') E s)
    (A:Around) (E:Value→Shared→Prop) (env:Env) (s:Shared) (φ:Phi) (σ:Hp) (ρ:Rho) (y:SV) (σ':Hp) (O:EnvOK sc env) (R:By A n) (I:Inv B φ σ s) (F:FrameOK B env ρ φ s.heap)
    (h:Ea m f ρ σ=some (y,σ')):wpAny (model B.prog B.w) A (eval e env) (fun v s'=>wpAny (model B.prog B.w) A (g env v) (BO B [] φ σ s.heap y σ') E s') E s:=
  AY h fun x σ1 hm h=>he.run O R I F hm fun v s1 φ1 G I1 r F1=>CP G (hf A E env s1 φ1 σ1 ρ x v y σ' O R I1 F1 r h)
theorem ID {e1 e2:Expr}{m1 m2:Ev}{f:SV→SV→Hp→Option (SV×Hp)}{g:Env→Value→Value→Sem Value}(he1:Av B n sc e1 m1)(he2:Av B n sc e2 m2)
    (hf:∀(A:Around) (E:Value→Shared→Prop) (env:Env) (s:Shared) (φ:Phi) (σ:Hp) (ρ:Rho) (x1 x2:SV) (v1 v2:Value) (y:SV) (σ':Hp),EnvOK sc env→By A n→Inv B φ σ s→FrameOK B env ρ φ s.heap→
      Al φ s.heap x1 v1→Al φ s.heap x2 v2→f x1 x2 σ=some (y,σ')→wpAny (model B.prog B.w) A (g env v1 v2) (BO B [] φ σ s.heap y σ') E s)
    (A:Around) (E:Value→Shared→Prop) (env:Env) (s:Shared) (φ:Phi) (σ:Hp) (ρ:Rho) (y:SV) (σ':Hp) (O:EnvOK sc env) (R:By A n) (I:Inv B φ σ s) (F:FrameOK B env ρ φ s.heap)
    (h:Ka m1 m2 f ρ σ=some (y,σ')):
    wpAny (model B.prog B.w) A (eval e1 env) (fun v1 s1=>wpAny (model B.prog B.w) A (eval e2 env) (fun v2 s2=>wpAny (model B.prog B.w) A (g env v1 v2) (BO B [] φ σ s.heap y σ') E s2) E s1) E s:=
  AY h fun x1 σ1 hm h=>he1.run O R I F hm fun v1 s1 φ1 G1 I1 r1 F1=>AY h fun x2 σ₂ hm2 h=>he2.run O R I1 F1 hm2 fun v2 s2 φ2 G2 I2 r2 F2=>
    CP (G1.trans G2) (hf A E env s2 φ2 σ₂ ρ x1 x2 v1 v2 y σ' O R I2 F2 (G2.vrep I1 Bc r1) r2 h)
theorem Aa {x:String}{pos:Pos}(hd:(Str.ofString x==("__debug__" :Str))=false:=by decide):Av B n sc (.Name (Str.ofString x) pos) (Ab x):=by
  intro A E env s φ σ ρ v σ' O R I F h
  refine gmap h fun w hl h=>spair (congrArg some h) ?_
  obtain⟨m,hn,hv⟩:=F.ns
  obtain⟨u,hu,hr⟩:=hv x w hl
  have hk:env.scope.kind= .function:=O.scope▸O.kind
  have q:BO B [] φ σ s.heap w σ u s:=⟨φ,.refl,I,hr⟩
  exact hu.elim (fun h=>wpAny_Name (wpAny_loadName_local hk h.1 hn h.2 q) hd) fun h=>h.2.elim fun c h2=>wpAny_Name (wpAny_loadName_cell hk h.1 h2.1 h2.2 q) hd
theorem Aw {i:Int}{k:Nat}{pos:Pos}:Av B n sc (.Constant (.int i) k pos) (Ag (.int i)):=
  fun _ _ _ _ _ _ _ _ _ _ _ I _ h=>spair h (wpAny_Constant_int (BS I ⟨_,rfl⟩))
theorem CV {x:String}{k:Nat}{pos:Pos}:Av B n sc (.Constant (.str (Str.ofString x)) k pos) (Ag (.str x)):=
  fun _ _ _ _ _ _ _ _ _ _ _ I _ h=>spair h (wpAny_Constant_str (BS I ⟨_,rfl⟩))
theorem CQ {b:Bool}{k:Nat}{pos:Pos}:Av B n sc (.Constant (.bool b) k pos) (Ag (.bool b)):=
  fun _ _ _ _ φ _ _ _ _ _ _ I _ h=>spair h (wpAny_Constant_bool ⟨φ,.refl,I,rfl⟩)
theorem M2 {k:Nat}{pos:Pos}:Av B n sc (.Constant .none k pos) (Ag .none):=
  fun _ _ _ _ φ _ _ _ _ _ _ I _ h=>spair h (wpAny_Constant_none ⟨φ,.refl,I,rfl⟩)
end Mine
namespace Mine
open scoped Classical
open PySem PySem.W PySem.Calls PyProof.Rows
open Sem (wp)
variable {B:Base}{X:List Addr}{φ φ' φ1 φ2:Phi}{σ σ' σ1 σ₂:Hp}{h h' h₁ h₂:Heap}{s s' s1 s2:Shared}{n:Nat}{sc:Scope}{env:Env}{ρ ρ':Rho}{A:Around}{E:Value→Shared→Prop}
theorem Ad:DU B n sc [] []:=fun _ _ _ _ φ _ _ _ _ _ _ I _ h _=>spair h (wpAny_pure ⟨φ,.refl,I,rfl⟩)
noncomputable def Cl (e:Expr):Bool:=!(Nat.beq e.ctorIdx 22)
theorem JT {e:Expr}{es:List Expr}{env:Env}(hs:Cl e=true):starEach (e::es) env=(false,eval e env)::starEach es env:=by
  cases e <;> first | rfl | exact nomatch hs
theorem Ac {e:Expr}{es:List Expr}{m:Ev}{ms:List Ev}(he:Av B n sc e m)(hes:DU B n sc es ms)(hs:Cl e=true:=by rfl):DU B n sc (e::es) (m::ms):=by
  intro A E env s φ σ ρ xs σ' O R I F h pos
  refine AY h fun x σ1 hm h=>AY h fun ys σ₂ hms h=>spair h ?_
  rw[JT hs]
  show wpAny _ _ (do
    let v ←eval e env
    let here ←pure [v]
    return here++(←holding here (spliced (backTo pos (starEach es env))))) _ _ s
  exact wpAny_bind (he.run O R I F hm fun v s1 φ1 G1 I1 r1 F1=>wpAny_bind (wpAny_pure (wpAny_bind (wpAny_holding (hes.run O R I1 F1 hms fun vs s2 φ2 G2 I2 r2 _=>
    wpAny_pure ⟨φ2,G1.trans G2,I2,Ak.cons'.mpr ⟨G2.vrep I1 Bc r1,r2⟩⟩)))))
theorem Ax (o:Obj):∀b ob,h.get? b=some ob→(h.push o).get? b=some ob:=fun _ _ e=>Heap.get?_push_of_some o e
theorem C5:h.get? h.objs.size=none:=by
  cases q:h.get? h.objs.size with
  | none=>rfl
  | some o=>exact absurd (Heap.lt_size q) (Nat.lt_irrefl _)
theorem Db:lim≤sizeLine:=by rw[sizeLine_eq]; decide
theorem Ju {ms:List Ev}{xs:List SV}:∀{σ σ'},evs ms ρ σ=some (xs,σ')→xs.length=ms.length:=by
  induction ms generalizing xs with
  | nil=>intro σ σ' h; exact spair (motive:=fun xs _=>xs.length=0) h rfl
  | cons m ms ih=>exact fun h=>AY h fun x σ1 _ h=>AY h fun ys σ₂ hms h=>spair (motive:=fun xs _=>xs.length=ms.length+1) h (congrArg Nat.succ (ih hms))
theorem Qs {vs:List Value}:(h.push { cls:= .type "tuple",data:= .seq vs.toArray }).IsTuple h.objs.size vs.toArray:=
  ⟨_,Heap.get?_push_size h rfl,rfl,_,rfl⟩
theorem Ki {xs:List SV}{vs:List Value}(I:Inv B φ σ s)(r:Ak φ s.heap xs vs){t:Nat}:
    BO B X φ σ s.heap (.tup xs) σ (.ref s.heap.objs.size) { s with heap:=s.heap.push { cls:= .type "tuple",data:= .seq vs.toArray },toks:=t }:=by
  exact Ge I (Ax _) ⟨_,vs.toArray,rfl,Qs,r.keep (Ax _)⟩
theorem Hv {xs:List SV}{vs:List Value}(I:Inv B φ σ s)(r:Ak φ s.heap xs vs)(hz:xs.length≤lim){t:Nat}:
    BO B X φ σ s.heap (.loc σ.length) (σ ++ [.list xs]) (.ref s.heap.objs.size) { s with heap:=s.heap.push { cls:= .type "list",data:= .seq vs.toArray },toks:=t }:=by
  exact Ig (r:= []) I (Ax _) (fun b hb=>List.mem_singleton.mp hb▸C5) (List.pairwise_singleton _ _) ⟨_,vs.toArray,rfl,⟨_,Heap.get?_push_size _ rfl⟩,r.mono (fun l a q=>D5 q) fun b items q=>EZ (Ax _) q,hz⟩
    rfl (fun b hb=>Nat.le_of_eq (List.mem_singleton.mp hb).symm)
theorem Qt {k:Nat}(h:k≤1000):k≤sizeLine:=by rw[sizeLine_eq]; omega
theorem Bt {es:List Expr}{ms:List Ev}{k:Nat}{pos:Pos}(he:DU B n sc es ms)(hl:ms.length≤1000:=by decide):Av B n sc (.Tuple es k pos) (Bw ms):=
  fun A E env s φ σ ρ x σ' O R I F h=>AY h fun xs σ1 hm h=>spair h (wpAny_Tuple_spliced (he.run O R I F hm fun vs s1 φ1 G1 I1 r1 _=>
    ⟨r1.length▸Ju hm▸Qt hl,(Ki (X:= []) I1 r1 (t:=s1.toks)).then G1⟩))
theorem Br {es:List Expr}{ms:List Ev}{pos:Pos}(he:DU B n sc es ms)(hl:ms.length≤1000:=by decide):Av B n sc (.List es pos) (Cc ms):=
  fun A E env s φ σ ρ x σ' O R I F h=>AY h fun xs σ1 hm h=>spair h (wpAny_List_spliced (he.run O R I F hm fun vs s1 φ1 G1 I1 r1 _=>
    ⟨r1.length▸Ju hm▸Qt hl,(Hv (X:= []) I1 r1 (Ju hm▸Nat.le_trans hl (by decide)) (t:=s1.toks)).then G1⟩))
theorem Inv.loc_at (I:Inv B φ σ s){l:Nat}{o:SObj}{v:Value}(e:σ[l]? =some o)(r:Al φ s.heap (.loc l) v):∃a as,v= .ref a∧φ[l]? =some (a::as)∧Gv B φ s.heap o (a::as):=by
  obtain⟨a,ha,hv⟩:=r
  obtain⟨as,h1,h2⟩:=I.phi_of e
  unfold Cd at ha
  rw[h1] at ha
  cases as with
  | nil=>exact nomatch ha
  | cons b as=>exact⟨b,as,Option.some.inj ha▸hv,h1,h2⟩
theorem Inv.plain_at (I:Inv B φ σ s){l:Nat}{xs:List SV}{v:Value}(e:σ[l]? =some (.list xs))(r:Al φ s.heap (.loc l) v):
    ∃a items,v= .ref a∧φ[l]? =some [a]∧s.heap.PlainList a items∧Ak φ s.heap xs items.toList∧xs.length≤lim:=by
  obtain⟨a,as,hv,h1,b,items,e,h2⟩:=I.loc_at e r
  exact⟨b,items,(List.cons.inj e).1▸hv,e▸h1,h2⟩
theorem Inv.list_at (I:Inv B φ σ s){l:Nat}{xs:List SV}{v:Value}(e:σ[l]? =some (.list xs))(r:Al φ s.heap (.loc l) v):
    ∃a items,v= .ref a∧φ[l]? =some [a]∧s.heap.IsList a items∧Ak φ s.heap xs items.toList∧xs.length≤lim:=
  (I.plain_at e r).elim fun a q=>q.elim fun items q=>⟨a,items,q.1,q.2.1,q.2.2.1.isList,q.2.2.2⟩
theorem Inv.dict_at (I:Inv B φ σ s){l:Nat}{kvs:List (SV×SV)}{ver:Nat}{v:Value}(e:σ[l]? =some (.dict kvs ver))(r:Al φ s.heap (.loc l) v):
    ∃a,v= .ref a∧φ[l]? =some [a]∧Hj B φ s.heap kvs a∧kvs.length≤lim:=by
  obtain⟨a,as,hv,h1,b,e,h2⟩:=I.loc_at e r
  exact⟨b,(List.cons.inj e).1▸hv,e▸h1,h2⟩
theorem Inv.inst_at (I:Inv B φ σ s){l:Nat}{c:String}{fs:List (String×SV)}{v:Value}(e:σ[l]? =some (.inst c fs))(r:Al φ s.heap (.loc l) v):
    ∃a dx es k,v= .ref a∧φ[l]? =some [a,dx]∧s.heap.get? a=some ⟨.ref (B.cls c),some dx,.plain, #[]⟩∧s.heap.get? dx=some (dictOf es k)∧EY φ s.heap fs es:=by
  obtain⟨a,as,hv,h1,b,dx,es,k,e,h2⟩:=I.loc_at e r
  exact⟨b,dx,es,k,(List.cons.inj e).1▸hv,e▸h1,h2⟩
noncomputable def Op.py:Op→Operator
  | .add=> .Add
  | .sub=> .Sub
  | .mul=> .Mult
  | .mod=> .Mod
theorem Lv {a:Addr}{items:Array Value}(e:h.IsTuple a items):∃dd n sl,h.get? a=some { cls:= .type "tuple",dict:=dd,data:= .seq items n,slots:=sl }:=by
  exact e.elim fun o e=>e.2.2.elim fun k hd=>⟨o.dict,k,o.slots,e.1.trans (congrArg some (e.2.1▸hd▸rfl))⟩
theorem M3 {a:Addr}{items:Array Value}(e:h.IsList a items):∃dd n sl,h.get? a=some { cls:= .type "list",dict:=dd,data:= .seq items n,slots:=sl }:=by
  exact e.elim fun o e=>e.2.2.elim fun k hd=>⟨o.dict,k,o.slots,e.1.trans (congrArg some (e.2.1▸hd▸rfl))⟩
theorem PC {a:Int}(h:a.natAbs<2^60):IntMulOk a b:=by
  refine IntMulOk.of_left ?_
  unfold Builtin.Int.intBits
  split
  · omega
  · rename_i hne
    have:a.natAbs.log2<60:=(Nat.log2_lt (by simpa using hne)).mpr h
    omega
theorem Vu {o:Op}{a b c:Int}{t u:Tok}(I:Inv B φ σ s)(h:P7 o a b=some c):wpAny (model B.prog B.w) A (binaryOp o.py (.int a t) (.int b u)) (BO B [] φ σ s.heap (.int c) σ) E s:=by
  cases o with
  | add=>exact add_int (BS I ⟨_,congrArg (Value.int · _) (Option.some.inj h)⟩)
  | sub=>exact sub_int (BS I ⟨_,congrArg (Value.int · _) (Option.some.inj h)⟩)
  | mul=>exact gif h fun hb h=>mul_int (BS I ⟨_,congrArg (Value.int · _) (Option.some.inj h)⟩) (PC hb.1)
  | mod=>exact gif h fun hb h=>mod_int' (Int.ne_of_gt hb) (BS I ⟨_,congrArg (Value.int · _) ((Int.fmod_eq_emod_of_nonneg _ (Int.le_of_lt hb)).trans (Option.some.inj h))⟩)
theorem Vv {xs ys:List SV}{v1 v2:Value}(I:Inv B φ σ s)(r1:Al φ s.heap (.tup xs) v1)(r2:Al φ s.heap (.tup ys) v2)(hlim:xs.length+ys.length<lim):
    wpAny (model B.prog B.w) A (binaryOp .Add v1 v2) (BO B [] φ σ s.heap (.tup (xs++ys)) σ) E s:=by
  obtain⟨a,i1,e1,t1,q1⟩:=r1
  obtain⟨b,i2,e2,t2,q2⟩:=r2
  obtain⟨dd,k,sl,h1⟩:=Lv t1
  obtain⟨dd2,k2,sl2,h2⟩:=Lv t2
  have l1:xs.length=i1.size:=q1.length
  have l2:ys.length=i2.size:=q2.length
  rw[e1,e2]
  by_cases z1:i1.isEmpty=true
  · refine concat_meets ⟨_,h1,rfl⟩ ⟨_,h2,rfl⟩ noFill_tuple_add seq_tuple_add PySem.F.slot_tuple_add PySem.F.entry_tuple_add (PySem.F.args_tuple_add_2 _ _) (tuple_addW0 a b _ _ k k2 dd dd2 sl sl2 z1) ⟨h1,h2,BS I ?_⟩
    rw[show xs= [] from List.eq_nil_of_length_eq_zero (l1.trans (Array.isEmpty_iff_size_eq_zero.mp z1))]
    exact⟨b,i2,rfl,t2,q2⟩
  · by_cases z2:i2.isEmpty=true
    · refine concat_meets ⟨_,h1,rfl⟩ ⟨_,h2,rfl⟩ noFill_tuple_add seq_tuple_add PySem.F.slot_tuple_add PySem.F.entry_tuple_add (PySem.F.args_tuple_add_2 _ _) (tuple_addW1 a b _ _ k k2 dd dd2 sl sl2 z1 z2) ⟨h1,h2,BS I ?_⟩
      rw[show ys= [] from List.eq_nil_of_length_eq_zero (l2.trans (Array.isEmpty_iff_size_eq_zero.mp z2)),List.append_nil]
      exact⟨a,i1,rfl,t1,q1⟩
    · refine concat_meets ⟨_,h1,rfl⟩ ⟨_,h2,rfl⟩ noFill_tuple_add seq_tuple_add PySem.F.slot_tuple_add PySem.F.entry_tuple_add (PySem.F.args_tuple_add_2 _ _) (tuple_addW2 a b _ _ k k2 dd dd2 sl sl2 z1 z2 (l1▸l2▸Nat.le_trans (Nat.le_of_lt hlim) Db)) ⟨h1,h2,?_⟩
      rw[show i1++i2=(i1.toList++i2.toList).toArray from Array.toList_inj.mp Array.toList_append]
      exact Ki I (q1.append q2)
theorem Uj {xs ys:List SV}{l r:Nat}{v1 v2:Value}(I:Inv B φ σ s)(hl:σ[l]? =some (.list xs))(hr:σ[r]? =some (.list ys))(r1:Al φ s.heap (.loc l) v1)(r2:Al φ s.heap (.loc r) v2)(hlim:xs.length+ys.length<lim):
    wpAny (model B.prog B.w) A (binaryOp .Add v1 v2) (BO B [] φ σ s.heap (.loc σ.length) (σ ++ [.list (xs++ys)])) E s:=by
  obtain⟨a,i1,e1,_,t1,q1,_⟩:=I.list_at hl r1
  obtain⟨b,i2,e2,_,t2,q2,_⟩:=I.list_at hr r2
  obtain⟨dd,k,sl,h1⟩:=M3 t1
  obtain⟨dd2,k2,sl2,h2⟩:=M3 t2
  have l1:xs.length=i1.size:=q1.length
  have l2:ys.length=i2.size:=q2.length
  rw[e1,e2]
  refine concat_meets ⟨_,h1,rfl⟩ ⟨_,h2,rfl⟩ noFill_list_add seq_list_add PySem.F.slot_list_add PySem.F.entry_list_add (PySem.F.args_list_add_2 _ _)
    (list_addW a b _ _ k k2 dd dd2 sl sl2 (l1▸l2▸Nat.le_trans (Nat.le_of_lt hlim) Db)) ⟨h1,h2,?_⟩
  rw[show i1++i2=(i1.toList++i2.toList).toArray from Array.toList_inj.mp Array.toList_append]
  exact Hv I (q1.append q2) (List.length_append▸Nat.le_of_lt hlim)
theorem Vw {o:Op}{x1 x2 y:SV}{v1 v2:Value}(I:Inv B φ σ s)(r1:Al φ s.heap x1 v1)(r2:Al φ s.heap x2 v2)(h:MN o x1 x2 σ=some (y,σ')):
    wpAny (model B.prog B.w) A (binaryOp o.py v1 v2) (BO B [] φ σ s.heap y σ') E s:=by
  cases x1 with
  | int a=>exact CH h fun b hb h=>gmap h fun c hc h=>spair (congrArg some h) (r1.elim fun t e1=>(show Al φ s.heap (.int b) v2 from Ep hb▸r2).elim fun u e2=>e1▸e2▸Vu I hc)
  | tup xs=>exact gif h fun ho h=>CH h fun ys hb h=>gif h fun hlim h=>spair h (ho▸Vv I r1 (ON hb▸r2) hlim)
  | loc l=>exact gif h fun ho h=>B7 h fun l' xs e1 hl h=>B7 h fun r ys e2 hr h=>gif h fun hlim h=>spair h (ho▸Uj I hl hr (e1▸r1) (e2▸r2) hlim)
  | _=>exact nomatch h
theorem AR {e₁ e₂:Expr}{m1 m2:Ev}{o:Op}{pos:Pos}(he1:Av B n sc e₁ m1)(he2:Av B n sc e₂ m2):Av B n sc (.BinOp e₁ o.py e₂ pos) (eOp o m1 m2):=by
  intro A E env s φ σ ρ x σ' O R I F h
  exact wpAny_BinOp (ID (g:=fun _ v1 v2=>binaryOp o.py v1 v2) he1 he2 (fun A E env s φ σ ρ x1 x2 v1 v2 y σ' O R I F r1 r2 h=>Vw I r1 r2 h) A E env s φ σ ρ x σ' O R I F h)
end Mine
namespace Mine
open scoped Classical
open PySem PySem.W PySem.Calls PyProof.Rows
open Sem (wp)
variable {B:Base}{X:List Addr}{φ φ' φ1 φ2:Phi}{σ σ' σ1 σ₂:Hp}{h h' h₁ h₂:Heap}{s s' s1 s2:Shared}{n:Nat}{sc:Scope}{env:Env}{ρ ρ':Rho}{A:Around}{E:Value→Shared→Prop}
theorem Qu {n:Nat}(ih:∀x d,BV n σ x=some d→d.canLay0=true∧d.depth≤n):∀(xs:List SV) (ds:List PyData),Dv n σ xs=some ds→PyData.canLayAll0 ds=true∧PyData.depthAll ds≤n:=by
  intro xs
  induction xs with
  | nil=>intro ds e; exact Option.some.inj e▸⟨rfl,Nat.zero_le _⟩
  | cons x xs ihx=>
    intro ds e
    refine OM e fun d ds' e1 e2 e0=>?_
    exact e0▸⟨Bool.and_eq_true_iff.mpr ⟨(ih x d e1).1,(ihx ds' e2).1⟩,Nat.max_le.mpr ⟨(ih x d e1).2,(ihx ds' e2).2⟩⟩
theorem Jv (n:Nat):∀(x:SV) (d:PyData),BV n σ x=some d→d.canLay0=true∧d.depth≤n:=by
  induction n using Nat.strongRecOn with
  | ind n ih=>
    intro x d e
    cases x with
    | none=>exact Option.some.inj (OK.symm.trans e)▸⟨rfl,Nat.zero_le _⟩
    | bool b=>exact Option.some.inj (OL.symm.trans e)▸⟨rfl,Nat.zero_le _⟩
    | int i=>exact Option.some.inj (Gr.symm.trans e)▸⟨rfl,Nat.zero_le _⟩
    | str i=>exact Option.some.inj (LY.symm.trans e)▸⟨IV i,Nat.zero_le _⟩
    | tup xs=>
      refine J8 e fun m ds en h1 ed=>?_
      have q:=Qu (ih m (en▸Nat.lt_succ_self m)) xs ds h1
      exact ed▸en▸⟨q.1,Nat.succ_le_succ q.2⟩
    | loc l=>
      refine J7 e fun m xs ds en _ h1 ed=>?_
      have q:=Qu (ih m (en▸Nat.lt_succ_self m)) xs ds h1
      exact ed▸en▸⟨q.1,Nat.succ_le_succ q.2⟩
theorem M4 {n:Nat}(ih:∀x v d,BV n σ x=some d→Al φ h x v→∃as,Reads h v d as):∀(xs:List SV) (vs:List Value) (ds:List PyData),Dv n σ xs=some ds→Ak φ h xs vs→∃as,ReadsAll h vs ds as:=by
  intro xs
  induction xs with
  | nil=>intro vs ds e r; exact Option.some.inj e▸(show vs= [] from r)▸⟨_,.nil⟩
  | cons x xs ihx=>
    intro vs ds e r
    obtain⟨v,r',e',h1,h2⟩:=r
    refine OM e fun d ds' e1 e2 e0=>?_
    exact e0▸e'▸(ih x v d e1 h1).elim fun as p=>(ihx r' ds' e2 h2).elim fun bs q=>⟨as++bs,.cons p q⟩
theorem Jw (I:Inv B φ σ s)(n:Nat):∀(x:SV) (v:Value) (d:PyData),BV n σ x=some d→Al φ s.heap x v→∃as,Reads s.heap v d as:=by
  induction n using Nat.strongRecOn with
  | ind n ih=>
    intro x v d e r
    cases x with
    | none=>exact Option.some.inj (OK.symm.trans e)▸(show v= .none from r)▸⟨_,.none⟩
    | bool b=>exact Option.some.inj (OL.symm.trans e)▸(show v= .bool b from r)▸⟨_,.bool b⟩
    | int i=>exact Option.some.inj (Gr.symm.trans e)▸r.elim fun t r=>r▸⟨_,.int i t⟩
    | str i=>exact Option.some.inj (LY.symm.trans e)▸r.elim fun t r=>r▸⟨_,.str _ t⟩
    | tup xs=>
      refine J8 e fun m ds en h1 ed=>?_
      obtain⟨a,items,ea,⟨o,ho,hc,k,hd⟩,h2⟩:=r
      exact ed▸ea▸(M4 (ih m (en▸Nat.lt_succ_self m)) xs _ ds h1 h2).elim fun as q=>⟨as,.tuple ho hc hd q⟩
    | loc l=>
      refine J7 e fun m xs ds en hl h1 ed=>?_
      obtain⟨a,items,ea,_,⟨o,ho,hc,k,hd⟩,h2,_⟩:=I.list_at hl r
      exact ed▸ea▸(M4 (ih m (en▸Nat.lt_succ_self m)) xs _ ds h1 h2).elim fun as q=>⟨a::as,.list ho hc hd q⟩
theorem Jx (I:Inv B φ σ s){x y:SV}{u v:Value}{b:Bool}(rx:Al φ s.heap x u)(ry:Al φ s.heap y v)(e:EW σ x y=some b):
    ∃da db as bs,Reads s.heap u da as∧Reads s.heap v db bs∧(da.canLay0=true∧da.depth≤12)∧(db.canLay0=true∧db.depth≤12)∧PyData.eqv da db=b:=
  L5 e fun d1 d2 e1 e2 e3=>(Jw I _ x u d1 e1 rx).elim fun as p=>(Jw I _ y v d2 e2 ry).elim fun bs q=>⟨d1,d2,as,bs,p,q,Jv _ x d1 e1,Jv _ y d2 e2,e3⟩
theorem M5 {n m:Nat}(h:n≤12)(hu:A.units+100<cLine):A.units+min n m<cLine:=Nat.lt_of_le_of_lt (Nat.add_le_add_left (Nat.le_trans (Nat.min_le_left n m) (Nat.le_trans h (by decide))) _) hu
theorem Wv (I:Inv B φ σ s)(hu:A.units+100<cLine){x y:SV}{u v:Value}{b:Bool}{Q:Value→Shared→Prop}(rx:Al φ s.heap x u)(ry:Al φ s.heap y v)(e:EW σ x y=some b)(q:Q (.bool b) s):
    wpAny (model B.prog B.w) A (compareOp .Eq u v) Q E s:=by
  obtain⟨da,db,as,bs,ra,rb,ha,hb,he⟩:=Jx I rx ry e
  exact SeqAt.compareEq_reads ra rb ha.1 hb.1 (M5 ha.2 hu) (he▸q)
theorem Ww (I:Inv B φ σ s)(hu:A.units+100<cLine){x y:SV}{u v:Value}{b:Bool}(rx:Al φ s.heap x u)(ry:Al φ s.heap y v)(e:EW σ x y=some b):SeqAt.EqAt A s u v b:=by
  obtain⟨da,db,as,bs,ra,rb,ha,hb,he⟩:=Jx I rx ry e
  exact fun prog w E Q q=>SeqAt.eqAt_reads da db A s u v as bs ra rb ha.1 hb.1 (M5 ha.2 hu) prog w E Q (he▸q)
theorem Wx (I:Inv B φ σ s)(hu:A.units+100<cLine){x y:SV}{u v:Value}{b:Bool}{Q:Value→Shared→Prop}(rx:Al φ s.heap x u)(ry:Al φ s.heap y v)(e:EW σ x y=some b)(q:Q (.bool (!b)) s):
    wpAny (model B.prog B.w) A (compareOp .NotEq u v) Q E s:=by
  obtain⟨da,db,as,bs,ra,rb,ha,hb,he⟩:=Jx I rx ry e
  have sh:∀{d:PyData},d.canLay0=true∧d.depth≤12→SeqAt.shaped d=true:=fun h=>Bool.and_eq_true_iff.mpr ⟨h.1,decide_eq_true (Nat.le_trans h.2 (by decide))⟩
  exact SeqAt.compareNe_shaped ra rb (sh ha) (sh hb) (Nat.lt_of_le_of_lt (Nat.add_le_add_left (by decide) _) hu) (he▸q)
noncomputable def Kj (h:Heap)(dx:PyData)(y:Value):Bool:= @decide (∃d as,Reads h y d as∧d.canLay0=true∧PyData.eqv d dx=true) (Classical.propDecidable _)
theorem Uk {dx d:PyData}{y:Value}{as:List Addr}(r:Reads h y d as)(hc:d.canLay0=true):Kj h dx y=PyData.eqv d dx:=by
  unfold Kj
  cases he:PyData.eqv d dx with
  | true=>exact @decide_eq_true _ (Classical.propDecidable _) ⟨d,as,r,hc,he⟩
  | false=>
    refine @decide_eq_false _ (Classical.propDecidable _) ?_
    intro hrin; obtain⟨d',as',r',hc',he'⟩:=hrin
    rw[←SeqAt.Reads.unique d d' y as as' hc r r',he] at he'
    cases he'
theorem Ul (I:Inv B φ σ s)(hu:A.units+100<cLine){x:SV}{u:Value}{dx:PyData}(ex:BV Cs σ x=some dx)(rx:Al φ s.heap x u){ys:List SV}:
    ∀{vs:List Value} {r:Bool},C9 σ x ys=some r→Ak φ s.heap ys vs→(∀v,v∈vs→SeqAt.EqAt A s v u (Kj s.heap dx v))∧vs.any (Kj s.heap dx)=r:=by
  induction ys with
  | nil=>
    intro vs r e q
    exact(show vs= [] from q)▸⟨fun _ h=>(nomatch h),Option.some.inj e⟩
  | cons y ys ih=>
    intro vs r e q
    obtain⟨v,vs',e',h1,h2⟩:=q
    refine MO e fun b c e1 e2 e0=>?_
    have p:=ih e2 h2
    have hb:Kj s.heap dx v=b:=L5 e1 fun d1 d2 f1 f2 f3=>(Jw I _ y v d1 f1 h1).elim fun as g=>by
      rw[Uk g (Jv _ y d1 f1).1, ←f3,Option.some.inj (ex.symm.trans f2)]
    rw[e',List.any_cons,p.2,hb]
    refine⟨fun w hw=>?_,e0⟩
    rcases List.mem_cons.mp hw with hw | hw
    · rw[hw,hb]; exact Ww I hu h1 rx e1
    · exact p.1 w hw
theorem All2.nil_inv {α β:Type}{R:α→β→Prop}{bs:List β}(q:All2 R [] bs):bs= []:=by cases q; rfl
theorem All2.cons_inv {α β:Type}{R:α→β→Prop}{a:α}{as:List α}{bs:List β}(q:All2 R (a::as) bs):∃b r,bs=b::r∧R a b∧All2 R as r:=by
  cases q with
  | cons x r=>exact⟨_,_,rfl,x,r⟩
theorem N9 {z:SV}{P:Prop}(h1:z.isInt=true)(h2:z.isTupKey=true):P:=by
  cases z with
  | int i=>exact nomatch h2
  | _=>exact nomatch h1
theorem Hj.ints {kvs:List (SV×SV)}{a:Addr}(D:Hj B φ h kvs a)(hk:(kvs.all fun p=>p.1.isInt)=true):
    ∃xs:List (Int×Value),h.DictOf (intKind B.prog B.w) a xs∧All2 (fun p q=>p.1=SV.int q.1∧Al φ h p.2 q.2) kvs xs:=by
  refine D.elim id fun D=>D.elim fun xs D=>D.1.elim fun o E=>E.elim fun es E=>E.elim fun ep E=>?_
  cases kvs with
  | nil=>
    have e:es= #[]:=Array.toList_inj.mp (by rw[E.2.2.2.1,D.2.nil_inv]; rfl)
    exact⟨[],⟨o, #[],ep,E.1,E.2.1,e▸E.2.2.1,fun _ h=>(nomatch h),.nil,.nil⟩,.nil⟩
  | cons p r=>
    obtain⟨b,r',e,h1,_⟩:=D.2.cons_inv
    exact N9 (Bool.and_eq_true_iff.mp hk).1 (h1.1▸(E.2.2.2.2.1 b (e▸List.mem_cons_self)).1)
theorem Hj.tups {kvs:List (SV×SV)}{a:Addr}(D:Hj B φ h kvs a)(hk:(kvs.all fun p=>p.1.isTupKey)=true):
    ∃xs:List (SV×Addr×Value),h.DictOfH (CG B.prog B.w) a xs∧All2 (fun p q=>p.1=q.1∧Al φ h p.2 q.2.2) kvs xs:=by
  refine D.elim (fun D=>D.elim fun xs D=>D.1.elim fun o E=>E.elim fun es E=>E.elim fun ep E=>?_) id
  cases kvs with
  | nil=>
    have e:es= #[]:=Array.toList_inj.mp (List.eq_nil_of_length_eq_zero (E.2.2.2.2.1.length.trans (congrArg List.length D.2.nil_inv)))
    exact⟨[],⟨o, #[],ep,E.1,E.2.1,e▸E.2.2.1,rfl,fun _ h=>(nomatch h),.nil⟩,.nil⟩
  | cons p r=>
    obtain⟨b,r',e,h1,_⟩:=D.2.cons_inv
    exact N9 (h1.1▸rfl) (Bool.and_eq_true_iff.mp hk).1
theorem IE {kvs:List (SV×SV)}{xs:List (Int×Value)}{i:Int}(q:All2 (fun p q=>p.1=SV.int q.1∧Al φ h p.2 q.2) kvs xs):
    (kvs.lookup (.int i)=none∧valueAt xs i=none)∨∃y v,kvs.lookup (.int i)=some y∧valueAt xs i=some v∧Al φ h y v:=by
  induction q with
  | nil=>exact .inl ⟨rfl,rfl⟩
  | @cons p x kvs xs r _ ih=>
    obtain⟨k,y⟩:=p
    obtain⟨j,v⟩:=x
    simp only at r
    obtain⟨rfl,r⟩:=r
    by_cases e:j=i
    · subst e
      exact .inr ⟨y,v,by simp[List.lookup],by simp[valueAt],r⟩
    · have e1:(SV.int i==SV.int j)=false:=by simp only[beq_eq_false_iff_ne,ne_eq,SV.int.injEq]; exact fun z=>e z.symm
      simp only[List.lookup,e1,valueAt,List.find?,decide_eq_false e]
      exact ih
theorem GO {kvs:List (SV×SV)}{xs:List (SV×Addr×Value)}{k:SV}(q:All2 (fun p q=>p.1=q.1∧Al φ h p.2 q.2.2) kvs xs):
    (kvs.lookup k=none∧atKey xs k=none)∨∃y a v,kvs.lookup k=some y∧atKey xs k=some (a,v)∧Al φ h y v:=by
  induction q with
  | nil=>exact .inl ⟨rfl,rfl⟩
  | @cons p x kvs xs r _ ih=>
    obtain⟨j,y⟩:=p
    obtain⟨j',a,v⟩:=x
    simp only at r
    obtain⟨rfl,r⟩:=r
    by_cases e:j=k
    · subst e
      exact .inr ⟨y,a,v,by simp[List.lookup],by simp[atKey],r⟩
    · have e1:(k==j)=false:=by simp only[beq_eq_false_iff_ne,ne_eq]; exact fun z=>e z.symm
      simp only[List.lookup,e1,atKey,List.find?,decide_eq_false e]
      exact ih
theorem Th {φ:Phi}{h:Heap}:(∀(n:Nat) (x:SV),x.isKeyD n=true→∀v,Al φ h x v→Al [] h x v)∧∀(n:Nat) (xs:List SV),SV.areKeysD n xs=true→∀vs,Ak φ h xs vs→Ak [] h xs vs:=
  EN (fun _ _ _ r=>r) (fun _ _ _ r=>r) (fun _ _ ih _ r=>r.elim fun a r=>r.elim fun items r=>⟨a,items,r.1,r.2.1,ih _ r.2.2⟩) (fun _ _ r=>r)
    fun _ _ _ a b _ r=>r.elim fun v r=>r.elim fun vs r=>⟨v,vs,r.1,a v r.2.1,b vs r.2.2⟩
theorem E0 {k:SV}{v:Value}(hk:k.isTupKey=true)(r:Al φ h k v):∃a,v= .ref a∧Al [] h k (.ref a):=by
  have q:=Th.1 _ k (BY hk) v r
  cases k with
  | tup xs=>exact r.elim fun a r=>r.elim fun items r=>⟨a,r.1,r.1▸q⟩
  | _=>exact nomatch hk
theorem FB {k:SV}{kvs:List (SV×SV)}(hk:Bz k kvs=true):(k.isInt=true∧(kvs.all fun p=>p.1.isInt)=true)∨(k.isTupKey=true∧(kvs.all fun p=>p.1.isTupKey)=true):=by
  simpa [Bz,Bool.or_eq_true,Bool.and_eq_true] using hk
end Mine
namespace Mine
open scoped Classical
open PySem PySem.W PySem.Calls PyProof.Rows
open Sem (wp)
variable {B:Base}{X:List Addr}{φ φ' φ1 φ2:Phi}{σ σ' σ1 σ₂:Hp}{h h' h₁ h₂:Heap}{s s' s1 s2:Shared}{n:Nat}{sc:Scope}{env:Env}{ρ ρ':Rho}{A:Around}{E:Value→Shared→Prop}
noncomputable def Cmp.py:Cmp→CmpOp
  | .eq=> .Eq
  | .ne=> .NotEq
  | .lt=> .Lt
  | .le=> .LtE
  | .gt=> .Gt
  | .isin=> .In
  | .notin=> .NotIn
  | .is=> .Is
theorem Gf (c:Char):Str.ofString (String.singleton c)=⟨#[c.toNat]⟩:=by
  rw[Str.ofString_eq_toList]
  simp
theorem PD (t y:String)(ch:Char)(hy:y.toList= [ch]):
    (!(Builtin.Str.occurrences (Str.ofString t) (Str.ofString y) 0 (Str.ofString t).length 1).isEmpty)=t.toList.contains ch:=by
  have e:y=String.singleton ch:=by
    apply String.toList_inj.mp
    simpa using hy
  subst e
  rw[Gf,StrLaws.found_one,Str.ofString_eq_toList,Bool.eq_iff_iff]
  simp only[decide_eq_true_eq,List.mem_map,List.contains_iff_mem]
  constructor
  · intro hrin; obtain⟨c,hc,e⟩:=hrin
    rwa [←Char.toNat_inj.mp e]
  · intro hc
    exact⟨ch,hc,rfl⟩
noncomputable def Ti (B:Base)(A:Around)(E:Value→Shared→Prop)(s:Shared)(u v:Value)(b:Bool):Prop:=
  ∀Q:Value→Shared→Prop,((∀t,Q (.bool b) { s with toks:=t })→wpAny (model B.prog B.w) A (compareOp .In u v) Q E s)∧((∀t,Q (.bool (!b)) { s with toks:=t })→wpAny (model B.prog B.w) A (compareOp .NotIn u v) Q E s)
theorem in_list (I:Inv B φ σ s)(hu:A.units+200<cLine){x:SV}{u:Value}{a:Addr}{items:Array Value}{xs:List SV}{b:Bool}(rx:Al φ s.heap x u)(ht:s.heap.IsList a items)(q:Ak φ s.heap xs items.toList)(e:C9 σ x xs=some b):Ti B A E s u (.ref a) b:=by
  have go:∀f:Value→Bool,(∀y,y∈items→SeqAt.EqAt A.in1 s y u (f y))→items.any f=b→Ti B A E s u (.ref a) b:=fun f h e Q=>
    ⟨fun k=>SeqAt.in_listAt f ht h (e▸k s.toks),fun k=>SeqAt.notIn_listAt f ht h (e▸k s.toks)⟩
  cases xs with
  | nil=>
    have hi:items= #[]:=Array.toList_inj.mp (show items.toList= [] from q)
    exact go (fun _=>false) (fun y hy=>nomatch hi▸hy) (Array.any_toList.symm.trans (by rw[show items.toList= [] from q]; exact Option.some.inj e))
  | cons y ys=>
    refine MO e fun b' c e1 _ _=>L5 e1 fun _ d _ hx _=>?_
    have p:=Ul (A:=A.in1) I (Nat.lt_of_le_of_lt (Nat.le_trans (Nat.le_of_eq (Nat.add_assoc _ 1 100)) (Nat.add_le_add_left (by decide) _)) hu) hx rx e q
    exact go _ (fun y hy=>p.1 y (Array.mem_toList_iff.mpr hy)) (Array.any_toList.symm.trans p.2)
theorem in_dict (I:Inv B φ σ s)(hu:A.units+200<cLine){x:SV}{u:Value}{a:Addr}{kvs:List (SV×SV)}(rx:Al φ s.heap x u)(hm:(a==sysModules)=false)(D:Hj B φ s.heap kvs a)(hk:Bz x kvs=true):Ti B A E s u (.ref a) (kvs.lookup x).isSome:=by
  intro Q
  refine(FB hk).elim (fun hk=>?_) fun hk=>?_
  · obtain⟨xs,hd,q⟩:=D.ints hk.2
    cases x with
    | int i=>
      obtain⟨t,e⟩:=rx
      have hb:(valueAt xs i).isSome=(List.lookup (SV.int i) kvs).isSome:=(IE (i:=i) q).elim (fun h=>by rw[h.1,h.2]; rfl) fun h=>h.elim fun y h=>h.elim fun v h=>by rw[h.1,h.2.1]; rfl
      rw[e, ←hb]
      exact⟨fun k=>wpAny_in_of (intKind_is B.prog B.w i t) hm hd.mapOf (k _),fun k=>wpAny_notIn_of (intKind_is B.prog B.w i t) hm hd.mapOf (k _)⟩
    | _=>exact nomatch hk.1
  · obtain⟨xs,hd,q⟩:=D.tups hk.2
    obtain⟨b,e,rk⟩:=E0 hk.1 rx
    have hb:(atKey xs x).isSome=(List.lookup x kvs).isSome:=(GO (k:=x) q).elim (fun h=>by rw[h.1,h.2]; rfl) fun h=>h.elim fun y h=>h.elim fun _ h=>h.elim fun v h=>by rw[h.1,h.2.1]; rfl
    have hr:(CG B.prog B.w).room A.in1:=Nat.lt_of_le_of_lt (Nat.le_trans (Nat.le_of_eq (Nat.add_assoc _ 1 64)) (Nat.add_le_add_left (by decide) _)) hu
    rw[e, ←hb]
    exact⟨fun k=>wpAny_in_heap hr ⟨hk.1,rk⟩ hm hd (k _),fun k=>wpAny_notIn_heap hr ⟨hk.1,rk⟩ hm hd (k _)⟩
theorem Qv (I:Inv B φ σ s)(hu:A.units+200<cLine){x c:SV}{u v:Value}{b:Bool}(rx:Al φ s.heap x u)(rc:Al φ s.heap c v)(e:P8 x c σ=some b):Ti B A E s u v b:=by
  cases c with
  | loc l=>
    replace e:(match σ[l]? with | some (.list xs)=>C9 σ x xs | some (.dict kvs _)=>if Bz x kvs then some ((kvs.lookup x).isSome) else none | _=>none)=some b:=e
    cases hl:σ[l]? with
    | none=>rw[hl] at e; exact nomatch e
    | some o=>
      rw[hl] at e
      cases o with
      | list xs=>
        obtain⟨a,items,ev,_,ht,q,_⟩:=I.list_at hl rc
        exact ev▸in_list I hu rx ht q e
      | dict kvs ver=>
        refine gif e fun hk e=>?_
        obtain⟨a,ev,hφ,D,_⟩:=I.dict_at hl rc
        exact ev▸Option.some.inj e▸in_dict I hu rx (I.mods a (BL hφ (List.mem_singleton.mpr rfl))) D hk
      | inst _ _=>exact nomatch e
  | str t=>
    cases x with
    | str y=>
      replace e:(match y.toList with | [ch]=>some (t.toList.contains ch) | _=>none)=some b:=e
      cases hy:y.toList with
      | nil=>rw[hy] at e; exact nomatch e
      | cons ch r=>
      cases r with
      | cons _ _=>rw[hy] at e; exact nomatch e
      | nil=>
        rw[hy] at e
        refine rx.elim fun t1 e1=>rc.elim fun t2 e2=>e1▸e2▸Option.some.inj e▸PD t y ch hy▸fun Q=>⟨fun k=>in_str (k s.toks),fun k=>notIn_str (k s.toks)⟩
    | _=>exact nomatch e
  | _=>exact nomatch e
theorem Mg {a b:SV}{f:Int→Int→Bool}{r:Bool}{P:Prop}{u v:Value}(ra:Al φ h a u)(rb:Al φ h b v)(e:(BP (DQ a) fun x=>BP (DQ b) fun y=>some (f x y))=some r)(k:∀x y t t',u= .int x t→v= .int y t'→f x y=r→P):P:=
  CH e fun x hx e=>CH e fun y hy e=>(show Al φ h (.int x) u from Ep hx▸ra).elim fun t e1=>(show Al φ h (.int y) v from Ep hy▸rb).elim fun t' e2=>k x y t t' e1 e2 (Option.some.inj e)
theorem Ih {o:Cmp}(I:Inv B φ σ s)(hu:A.units+200<cLine){x y:SV}{u v:Value}{b:Bool}(rx:Al φ s.heap x u)(ry:Al φ s.heap y v)(e:Cp o x y σ=some b){Q:Value→Shared→Prop}
    (k:∀t,Q (.bool b) { s with toks:=t }):wpAny (model B.prog B.w) A (compareOp o.py u v) Q E s:=by
  have hu':A.units+100<cLine:=Nat.lt_of_le_of_lt (Nat.add_le_add_left (by decide) _) hu
  cases o with
  | eq=>exact Wv I hu' rx ry e (k s.toks)
  | ne=>exact gmap e fun b' e eb=>Wx I hu' rx ry e (eb▸k s.toks)
  | lt=>exact Mg (f:=fun x y=>decide (x<y)) rx ry e fun _ _ _ _ e1 e2 e=>e1▸e2▸lt_int (e▸k s.toks)
  | le=>exact Mg (f:=fun x y=>decide (x≤y)) rx ry e fun _ _ _ _ e1 e2 e=>e1▸e2▸le_int (e▸k s.toks)
  | gt=>exact Mg (f:=fun x y=>decide (y<x)) rx ry e fun _ _ _ _ e1 e2 e=>e1▸e2▸gt_int (e▸k s.toks)
  | isin=>exact(Qv I hu rx ry e Q).1 k
  | notin=>exact gmap e fun b' e eb=>(Qv I hu rx ry e Q).2 (eb▸k)
  | is=>
    refine gif e fun hy e=>?_
    have ev:v= .none:=show Al φ s.heap .none v from MK hy▸ry
    cases x with
    | none=>rw[ev,show u= .none from rx]; exact wpAny_is_self rfl (Option.some.inj e▸k s.toks)
    | tup xs=>exact rx.elim fun a r=>r.elim fun items r=>ev▸r.1▸wpAny_is_other rfl (fun q=>nomatch q) (Option.some.inj e▸k s.toks)
    | _=>exact nomatch e
theorem By.cmp (r:By A n):A.units+200<cLine:=Nat.lt_of_le_of_lt (Nat.add_le_add_left (by decide) _) r.units
theorem FS {e₁ e₂:Expr}{m1 m2:Ev}{o:Cmp}{pos:Pos}(he1:Av B n sc e₁ m1)(he2:Av B n sc e₂ m2)(hm:behindInMarks o.py e₂=false:=by with_unfolding_all rfl):
    Av B n sc (.Compare e₁ [o.py] [e₂] pos) (AM o m1 m2):=
  fun A E env s φ σ ρ x σ' O R I F h=>wpAny_Compare1 (ID (g:=fun _ v1 v2=>compareOp o.py v1 v2) he1 he2 (fun A E env s φ σ ρ x1 x2 v1 v2 y σ' O R I F r1 r2 h=>
    gmap h fun b hb h=>spair (congrArg some h) (Ih I R.cmp r1 r2 hb fun t=>BS I rfl)) A E env s φ σ ρ x σ' O R I F h) hm
theorem E1 {e:Expr}{m:Ev}(he:Av B n sc e m)
    (hs:∀env whole,isTrue e env whole=(do let v ←whole; standAt e.pos; holding [v] (truthy v)):=by intro _ _; rfl):Eb B n sc e (AJ m):=
  fun A E env s φ σ ρ b σ' O R I F h=>AY h fun x σ1 hm h=>gmap h fun b' hb h=>spair (congrArg some h) (wpAny_isTrue_value (he.run O R I F hm fun v s1 φ1 G I1 r _=>
    (show v= .bool b' from(MP hb▸r:Al φ1 s1.heap (.bool b') v))▸wpAny_truthy_bool ⟨rfl,φ1,G,I1⟩) (hs env _))
theorem Vx {m1 m2:Ev}{o:Cmp}{b:Bool}{P:Prop}(h:AJ (AM o m1 m2) ρ σ=some (b,σ'))(k:∀x1 σ1 x2,m1 ρ σ=some (x1,σ1)→m2 ρ σ1=some (x2,σ')→Cp o x1 x2 σ'=some b→P):P:=
  AY h fun x σ1 h' h=>gmap h fun b' hb h=>AY h' fun x1 σ1 h1 h'=>AY h' fun x2 σ₂ h2 h'=>gmap h' fun b'' hc h'=>
    have q:=pinj (congrArg some h'); have r:=pinj (congrArg some h)
    have e:=q.2.trans r.2
    k x1 σ1 x2 h1 (e▸h2) ((Option.some.inj ((congrArg IR q.1).trans hb)).trans r.1▸e▸hc)
theorem AQ {e₁ e₂:Expr}{m1 m2:Ev}{o:Cmp}{pos:Pos}(he1:Av B n sc e₁ m1)(he2:Av B n sc e₂ m2)(hm:behindInMarks o.py e₂=false:=by with_unfolding_all rfl):
    Eb B n sc (.Compare e₁ [o.py] [e₂] pos) (AJ (AM o m1 m2)):=
  fun A E env s φ σ ρ b σ' O R I F h=>Vx h fun x1 σ1 x2 h1 h2 hc=>wpAny_isTrue_Compare1 (he1.run O R I F h1 fun v1 s1 φ1 G1 I1 r1 F1=>he2.run O R I1 F1 h2 fun v2 s2 φ2 G2 I2 r2 _=>
      Ih I2 R.cmp (G2.vrep I1 Bc r1) r2 hc fun t=>wpAny_truthy_bool ⟨rfl,φ2,(G1.trans G2).trans (.keep fun _ _ e=>e),I2.keep fun _ _ e=>e⟩) hm
theorem Um {ma mb mc:Ev}{o1 o2:Cmp}{b:Bool}{P:Prop}(h:AJ (Kb o1 o2 ma mb mc) ρ σ=some (b,σ'))
    (k:∀x σ1 y σ₂ t,ma ρ σ=some (x,σ1)→mb ρ σ1=some (y,σ₂)→Cp o1 x y σ₂=some t→(t=false→b=false∧σ'=σ₂)→(t=true→∃z,mc ρ σ₂=some (z,σ')∧Cp o2 y z σ'=some b)→P):P:=
  AY h fun xr σr hq h=>gmap h fun b' hb h=>AY hq fun x σ1 h1 hq=>AY hq fun y σ₂ h2 hq=>CH hq fun t hcv hq=>by
    have r:=pinj (congrArg some h)
    cases t with
    | false=>
      have q:=pinj hq
      exact k x σ1 y σ₂ false h1 h2 hcv (fun _=>⟨r.1.symm.trans (Option.some.inj ((congrArg IR q.1).trans hb)).symm,(q.2.trans r.2).symm⟩) (fun q=>nomatch q)
    | true=>
      refine AY hq fun z σ3 h3 hq=>gmap hq fun c hc hq=>?_
      have q:=pinj (congrArg some hq)
      have e:=q.2.trans r.2
      exact k x σ1 y σ₂ true h1 h2 hcv (fun q=>nomatch q) (fun _=>⟨z,e▸h3,(Option.some.inj ((congrArg IR q.1).trans hb)).trans r.1▸e▸hc⟩)
theorem RO {a b c:Expr}{ma mb mc:Ev}{o1 o2:Cmp}{pos:Pos}(ha:Av B n sc a ma)(hb:Av B n sc b mb)(hc:Av B n sc c mc)
    (hm:lastMarks [o1.py,o2.py] [b,c]=false:=by with_unfolding_all rfl):
    Eb B n sc (.Compare a [o1.py,o2.py] [b,c] pos) (AJ (Kb o1 o2 ma mb mc)):=by
  intro A E env s φ σ ρ bb σ' O R I F h
  refine Um h fun x σ1 y σ₂ t h1 h2 hcv k1 k2=>isTrue_chain (ha.run O R I F h1 fun v1 s1 φ1 G1 I1 r1 F1=>test_link (hb.run O R I1 F1 h2 fun v2 s2 φ2 G2 I2 r2 F2=>
    Ih I2 R.cmp (G2.vrep I1 Bc r1) r2 hcv fun tk=>wpAny_truthy_bool ?_)) hm
  have I2':Inv B φ2 σ₂ { s2 with toks:=tk }:=I2.keep fun _ _ e=>e
  cases t with
  | false=>
    rw[(k1 rfl).1,(k1 rfl).2]
    exact⟨rfl,φ2,G1.trans G2,I2'⟩
  | true=>exact(k2 rfl).elim fun z q=>test_last (hc.run O R I2' F2 q.1 fun v3 s3 φ3 G3 I3 r3 _=>Ih I3 R.cmp (G3.vrep I2' Bc r2) r3 q.2 fun t=>wpAny_truthy_bool ⟨rfl,φ3,(G1.trans G2).trans G3,I3.keep fun _ _ e=>e⟩)
theorem Ha {e:Expr}{t:Tv}{pos:Pos}(he:Eb B n sc e t):Eb B n sc (.UnaryOp .Not e pos) (Jq t):=
  fun A E env s φ σ ρ b σ' O R I F h=>gmap h fun p hp h=>spair (congrArg some h) (wpAny_isTrue_Not (he.run O R I F hp fun s1 φ1 G I1 _=>⟨rfl,φ1,G,I1⟩))
noncomputable def Mh (B:Base)(n:Nat)(sc:Scope)(op:BoolOp)(es:List Expr)(t:Tv):Prop:=
  ∀(A:Around) (E:Value→Shared→Prop) (env:Env) (s:Shared) (φ:Phi) (σ:Hp) (ρ:Rho) (b:Bool) (σ':Hp),EnvOK sc env→By A n→Inv B φ σ s→FrameOK B env ρ φ s.heap→
    t ρ σ=some (b,σ')→wpAny (model B.prog B.w) A (allTrue op es env) (fun b' s'=>b'=b∧Gb B [] φ σ s.heap σ' s') E s
theorem EO {e:Expr}{t:Tv}(he:Eb B n sc e t):Mh B n sc .Or [e] t:=
  fun A E env s φ σ ρ b σ' O R I F h=>wpAny_allTrue_Or_cons (he.run O R I F h fun s1 φ1 G I1 _=>by
    cases b with
    | true=>exact⟨rfl,φ1,G,I1⟩
    | false=>exact wpAny_allTrue_Or_nil ⟨rfl,φ1,G,I1⟩)
theorem Qw {e:Expr}{t:Tv}(he:Eb B n sc e t):Mh B n sc .And [e] t:=
  fun A E env s φ σ ρ b σ' O R I F h=>wpAny_allTrue_And_cons (he.run O R I F h fun s1 φ1 G I1 _=>by
    cases b with
    | false=>exact⟨rfl,φ1,G,I1⟩
    | true=>exact wpAny_allTrue_And_nil ⟨rfl,φ1,G,I1⟩)
theorem Mi {b:Bool}{c:Sem Bool}(G:Grow [] φ σ h φ1 σ1 h₁)(q:wpAny (model B.prog B.w) A c (fun b' s'=>b'=b∧Gb B [] φ1 σ1 h₁ σ₂ s') E s):wpAny (model B.prog B.w) A c (fun b' s'=>b'=b∧Gb B [] φ σ h σ₂ s') E s:=
  wpAny_mono q (fun _ _ q=>⟨q.1,q.2.elim fun φ2 q=>⟨φ2,G.trans q.1,q.2⟩⟩) fun _ _ q=>q
theorem Gx {e:Expr}{es:List Expr}{t u:Tv}(he:Eb B n sc e t)(hes:Mh B n sc .Or es u):Mh B n sc .Or (e::es) (tOr t u):=
  fun A E env s φ σ ρ b σ' O R I F h=>AY h fun c σ1 hm h=>wpAny_allTrue_Or_cons (he.run O R I F hm fun s1 φ1 G1 I1 F1=>by
    cases c with
    | true=>exact spair h ⟨rfl,φ1,G1,I1⟩
    | false=>exact Mi G1 (hes A E env s1 φ1 σ1 ρ b σ' O R I1 F1 h))
theorem Vy {e:Expr}{es:List Expr}{t u:Tv}(he:Eb B n sc e t)(hes:Mh B n sc .And es u):Mh B n sc .And (e::es) (Qj t u):=
  fun A E env s φ σ ρ b σ' O R I F h=>AY h fun c σ1 hm h=>wpAny_allTrue_And_cons (he.run O R I F hm fun s1 φ1 G1 I1 F1=>by
    cases c with
    | false=>exact spair h ⟨rfl,φ1,G1,I1⟩
    | true=>exact Mi G1 (hes A E env s1 φ1 σ1 ρ b σ' O R I1 F1 h))
theorem E2 {op:BoolOp}{es:List Expr}{t:Tv}{pos:Pos}(he:Mh B n sc op es t):Eb B n sc (.BoolOp op es pos) t:=by
  intro A E env s φ σ ρ b σ' O R I F h
  exact wpAny_isTrue_BoolOp (he A E env s φ σ ρ b σ' O R I F h)
theorem Gy {e a b:Expr}{t:Tv}{m1 m2:Ev}{pos:Pos}(he:Eb B n sc e t)(h₁:Av B n sc a m1)(h₂:Av B n sc b m2):Av B n sc (.IfExp e a b pos) (eIf t m1 m2):=
  fun A E env s φ σ ρ x σ' O R I F h=>AY h fun c σ1 hm h=>wpAny_IfExp (he.run O R I F hm fun s1 φ1 G1 I1 F1=>by
    cases c with
    | true=>exact CP G1 (h₁ A E env s1 φ1 σ1 ρ x σ' O R I1 F1 h)
    | false=>exact CP G1 (h₂ A E env s1 φ1 σ1 ρ x σ' O R I1 F1 h))
theorem OR {a b:Expr}{m1 m2:Ev}{pos:Pos}(h₁:Av B n sc a m1)(h₂:Av B n sc b m2):Av B n sc (.BoolOp .And [a,b] pos) (Qi m1 m2):=by
  intro A E env s φ σ ρ x σ' O R I F h
  refine AY h fun y σ1 hm h=>CH h fun c hc h=>wpAny_And2 (h₁.run O R I F hm fun v s1 φ1 G1 I1 r F1=>?_)
  rw[show v= .bool c from(MP hc▸r:Al φ1 s1.heap (.bool c) v)]
  cases c with
  | false=>exact spair h (wpAny_truthy_bool ⟨φ1,G1,I1,rfl⟩)
  | true=>exact wpAny_truthy_bool (CP G1 (h₂ A E env s1 φ1 σ1 ρ x σ' O R I1 F1 h))
end Mine
namespace Mine
open scoped Classical
open PySem PySem.W PySem.Calls PyProof.Rows
open Sem (wp)
variable {B:Base}{X:List Addr}{φ φ' φ1 φ2:Phi}{σ σ' σ1 σ₂:Hp}{h h' h₁ h₂:Heap}{s s' s1 s2:Shared}{n:Nat}{sc:Scope}{env:Env}{ρ ρ':Rho}{A:Around}{E:Value→Shared→Prop}
theorem Kk {k:Int}{m:Nat}(h0:0≤k)(h1:k.toNat<m):seqIndex? k m=some k.toNat:=by
  unfold seqIndex?
  simp only[show ¬ (k<0) by omega,if_false]
  have h2:k<m:=by omega
  simp[h0,h2]
theorem IX {items:Array Value}{k:Nat}{v:Value}(h:items.toList[k]? =some v):items[k]? =some v:=Array.getElem?_toList.symm.trans h
theorem IsTuple.typeIs {a:Addr}{items:Array Value}(ht:s.heap.IsTuple a items):s.TypeIs (.ref a) "tuple" :=ht.elim fun o h=>⟨o,h.1,h.2.1⟩
theorem Un {value slice:Expr}{x i y:SV}{v u:Value}(I:Inv B φ σ s)(hu:A.units+200<cLine)(rx:Al φ s.heap x v)(ri:Al φ s.heap i u)(e:IT x i σ=some (y,σ'))
    (hs:∀o j,subscripted slice false o j=operate [o,j] (getItem o j)):wpAny (model B.prog B.w) A (subscriptTail value slice v u) (BO B [] φ σ s.heap y σ') E s:=by
  cases x with
  | tup xs=>
    refine CH e fun k hk e=>gif e fun hlt e=>gmap e fun w e h=>spair (congrArg some h) (gif e fun h0 e=>?_)
    obtain⟨t,eu⟩:=(show Al φ s.heap (.int k) u from Ep hk▸ri)
    obtain⟨a,items,ev,ht,q⟩:=rx
    obtain⟨w,hw,rw'⟩:=q.get e
    have hw:=IX hw
    rw[ev,eu]
    exact tail_any (T:= "tuple") (IsTuple.typeIs ht) PyProof.Rows.slot_tuple_getitem.lookup (PyProof.Rows.getItem_tuple ht (by omega) (by omega) (Kk h0 (Array.getElem?_eq_some_iff.mp hw).1) hw ⟨φ,.refl,I,rw'⟩) (hs _ _)
  | str st=>
    refine CH e fun k hk e=>gif e fun h0 e=>gmap e fun c e h=>spair (congrArg some h) ?_
    obtain⟨t',eu⟩:=(show Al φ s.heap (.int k) u from Ep hk▸ri)
    obtain⟨t,ev⟩:=rx
    have hlen:(Str.ofString st).length=st.toList.length:=by rw[Str.ofString_eq_toList]; exact List.length_map ..
    rw[ev,eu]
    refine tail_any (T:= "str") (typeIs_str s _ t) PySem.F.slot_str_getitem.lookup (P.getItem_str (c:=c.toNat) ?_ ?_ ?_) (hs _ _)
    · simp only[Bool.or_eq_false_iff,decide_eq_false_iff_not]; omega
    · rw[hlen,Kk h0.1 (List.getElem?_eq_some_iff.mp e).1,Str.ofString_eq_toList]
      simp[e]
    · exact BS I ⟨_,congrArg (Value.str · _) (Gf c).symm⟩
  | loc l=>
    replace e:(match σ[l]? with | some (.list xs)=>BP (DQ i) fun i=>(idx? xs i).map fun v=>(v,σ) | some (.dict kvs _)=>if Bz i kvs then(kvs.lookup i).map fun v=>(v,σ) else none | _=>none)=some (y,σ'):=e
    cases hl:σ[l]? with
    | none=>rw[hl] at e; exact nomatch e
    | some o=>
    rw[hl] at e
    cases o with
    | list xs=>
      refine CH e fun k hk e=>gmap e fun w e h=>spair (congrArg some h) (gif e fun h0 e=>?_)
      obtain⟨t,eu⟩:=(show Al φ s.heap (.int k) u from Ep hk▸ri)
      obtain⟨a,items,ev,_,ht,q,hz⟩:=I.list_at hl rx
      obtain⟨w,hw,rw'⟩:=q.get e
      have hlt:=Nat.lt_of_lt_of_le (List.getElem?_eq_some_iff.mp e).1 hz
      unfold lim at hlt
      rw[ev,eu]
      exact tail_any ht.typeIs list_getitem_lookup (wpAny_getItem_list ht h0 (by omega) (IX hw) ⟨φ,.refl,I,rw'⟩) (hs _ _)
    | dict kvs ver=>
      refine gif e fun hk e=>gmap e fun w e h=>spair (congrArg some h) ?_
      obtain⟨a,ev,hφ,D,hz⟩:=I.dict_at hl rx
      rw[ev]
      refine(FB hk).elim (fun hk=>?_) fun hk=>?_
      · obtain⟨xs,hd,q⟩:=D.ints hk.2
        cases i with
        | int i=>
          obtain⟨t,eu⟩:=ri
          refine(IE (i:=i) q).elim (fun h=>Bs e h.1) fun h=>h.elim fun y h=>h.elim fun v h=>?_
          rw[eu]
          exact tail_any hd.typeIs PySem.F.slot_dict_getitem.lookup (wpAny_getItem_of (intKind_is B.prog B.w i t) hd.mapOf h.2.1 (BS I (Option.some.inj (h.1.symm.trans e)▸h.2.2))) (hs _ _)
        | _=>exact nomatch hk.1
      · obtain⟨xs,hd,q⟩:=D.tups hk.2
        obtain⟨b,eu,rk⟩:=E0 hk.1 ri
        have hr:(CG B.prog B.w).room A.in1:=Nat.lt_of_le_of_lt (Nat.le_trans (Nat.le_of_eq (Nat.add_assoc _ 1 64)) (Nat.add_le_add_left (by decide) _)) hu
        refine(GO (k:=i) q).elim (fun h=>Bs e h.1) fun h=>h.elim fun y h=>h.elim fun a' h=>h.elim fun v h=>?_
        rw[eu]
        exact tail_any hd.typeIs PySem.F.slot_dict_getitem.lookup (wpAny_getItem_heap hr ⟨hk.1,rk⟩ hd h.2.1 (BS I (Option.some.inj (h.1.symm.trans e)▸h.2.2))) (hs _ _)
    | inst _ _=>exact nomatch e
  | _=>exact nomatch e
theorem Ar {e₁ e₂:Expr}{m1 m2:Ev}{pos:Pos}(he1:Av B n sc e₁ m1)(he2:Av B n sc e₂ m2)
    (hs:∀o j,subscripted e₂ false o j=operate [o,j] (getItem o j):=by intro _ _; rfl):Av B n sc (.Subscript e₁ e₂ pos) (Ap m1 m2):=
  fun A E env s φ σ ρ x σ' O R I F h=>
    Subscript_ (ID (g:=fun _ v1 v2=>subscriptTail e₁ e₂ v1 v2) he1 he2 (fun A E env s φ σ ρ x1 x2 v1 v2 y σ' O R I F r1 r2 h=>Un I R.cmp r1 r2 h hs) A E env s φ σ ρ x σ' O R I F h)
theorem M6 {xs:List SV}{vs:List Value}{d:Obj}(I:Inv B φ1 σ1 s)(G:Grow [] φ σ h φ1 σ1 s.heap)(r:Ak φ1 s.heap xs vs){t t':Nat}:
    BO B [] φ σ h (.tup xs) σ1 (.ref (s.heap.push d).objs.size) { s with heap:=(s.heap.push d).push { cls:= .type "tuple",data:= .seq vs.toArray },toks:=t' }:=
  (Ki (s:={ s with heap:=s.heap.push d,toks:=t }) (I.keep (Ax d)) (r.keep (Ax d))).then (G.trans (.keep (Ax d)))
theorem DV {e:Expr}{m:Ev}{k kk:Nat}{p₁ p₂ pos:Pos}(he:Av B n sc e m)(hk:1≤k:=by decide):
    Av B n sc (.Subscript e (.Slice (some (.Constant (.int (k:Int)) kk p₁)) none none p₂) pos) (ET m k):=by
  intro A E env s φ σ ρ x σ' O R I F h
  refine AY h fun x1 σ1 hm h=>Subscript_ (he.run O R I F hm fun v s1 φ1 G1 I1 r _=>?_)
  cases x1 with
  | tup xs=>
    refine gif h fun hc h=>spair h ?_
    obtain⟨a,items,ev,ht,q⟩:=r
    have hsz:xs.length=items.size:=q.length
    rw[ev]
    refine wpAny_Slice (wpAny_evalPart_some (wpAny_Constant_int (wpAny_evalPart_none (wpAny_evalPart_none ?_))))
    have ht':(s1.heap.push { cls:= .type "slice",data:= .fields #[.int k s1.toks,.none,.none] }).IsTuple a items:=EZ (Ax _) ht
    exact tail_any (T:= "tuple") (IsTuple.typeIs ht') PyProof.Rows.slot_tuple_getitem.lookup
      (getItem_tuple_from (a:=k) ht' (Heap.IsSliceOf.new ..) hk (hsz▸hc.1) (M6 I1 G1 (q.drop k) (t:=0)) (hsz▸Nat.le_trans (Nat.le_of_lt hc.2) Db)) rfl
  | _=>exact nomatch h
theorem Tj (n:Nat):Builtin.Slice.sliceAdjust none none (-1) (n:Int)=((n:Int)-1, -1):=by
  unfold Builtin.Slice.sliceAdjust
  simp
theorem Tk (n:Nat):Builtin.Slice.slicePlaces ((n:Int)-1) (-1) (-1)=n:=by
  unfold Builtin.Slice.slicePlaces
  have h1:¬ ((-1:Int)>0):=by omega
  simp only[h1,if_false]
  rw[show(- -1:Int)=1 by decide,Int.ediv_one]
  split <;> omega
theorem Vz (xs:Array Value):((List.range xs.size).filterMap fun(k:Nat)=>xs[((xs.size:Int)-1+(k:Int)*(-1)).toNat]?).toArray=xs.toList.reverse.toArray:=by
  congr 1
  apply List.ext_getElem?
  intro i
  have h1:∀(m:Nat),m≤xs.size→((List.range m).filterMap fun(k:Nat)=>xs[((xs.size:Int)-1+(k:Int)*(-1)).toNat]?)=xs.toList.reverse.take m:=by
    intro m
    induction m with
    | zero=>intro _; simp
    | succ m ih=>
      intro hm
      rw[List.range_succ,List.filterMap_append,ih (by omega),List.take_add_one]
      congr 1
      have e:((xs.size:Int)-1+(m:Int)*(-1)).toNat=xs.size-1-m:=by omega
      have e2:xs.toList.reverse[m]? =xs[xs.size-1-m]?:=by
        rw[List.getElem?_reverse (by simpa using (by omega:m<xs.size))]
        simp
      rw[e2]
      simp only[List.filterMap_cons,List.filterMap_nil,e]
      cases xs[xs.size-1-m]? <;> rfl
  rw[h1 xs.size (Nat.le_refl _),List.take_of_length_le (by simp)]
theorem Mj {prog:Program}{w:World}{sl:Addr}{n:Nat}{u:Tok}{Q:Int×Int×Nat→Shared→Prop}(hs:s.heap.IsSliceOf sl .none .none (.int (-1) u))(hq:Q ((n:Int)-1, -1,n) s):
    wpAny (model prog w) A (Builtin.Slice.sliceApplied (.ref sl) (pure (n:Int))) Q E s:=by
  obtain⟨os,hos,hcs,hds⟩:=id hs
  unfold Builtin.Slice.sliceApplied Builtin.Slice.sliceFields
  refine wpAny_bind (wpAny_bind (wpAny_field hos hds (x:= .none) rfl (wpAny_bind (wpAny_field hos hds (x:= .none) rfl (wpAny_bind (wpAny_field hos hds (x:= .int (-1) u) rfl (wpAny_pure ?_)))))))
  refine wpAny_bind (slicePart_int ?_)
  show wpAny _ _ (if((-1:Int)==0)=true then _ else _) _ _ s
  rw[if_neg (by decide)]
  refine wpAny_bind (slicePart_none (wpAny_bind (slicePart_none (wpAny_bind (wpAny_pure ?_)))))
  show wpAny _ _ (match Builtin.Slice.sliceAdjust none none (-1) (n:Int) with | (lo,hi)=>pure (lo,(-1:Int),Builtin.Slice.slicePlaces lo hi (-1))) _ _ s
  rw[Tj n]
  show wpAny _ _ (pure ((n:Int)-1,(-1:Int),Builtin.Slice.slicePlaces ((n:Int)-1) (-1) (-1))) _ _ s
  rw[Tk n]
  exact wpAny_pure hq
theorem Ln {prog:Program}{w:World}{t sl:Addr}{items:Array Value}{u:Tok}{Q:Value→Shared→Prop}(ht:IsTup s.heap t items)(hs:s.heap.IsSliceOf sl .none .none (.int (-1) u))
    (hq:Q (.ref s.heap.objs.size) { s with heap:=s.heap.push { cls:= .type "tuple",data:= .seq items.toList.reverse.toArray } })
    (hsz:items.size≤sizeLine):wpAny (model prog w) A (getItem (.ref t) (.ref sl)) Q E s:=by
  have hdrop:sizeOk (.seq items.toList.reverse.toArray):=by
    show items.toList.reverse.toArray.size≤sizeLine
    rw[List.size_toArray,List.length_reverse,Array.length_toList]
    exact hsz
  obtain⟨os,hos,hcs,hds⟩:=id hs
  have hTs:s.TypeIs (.ref sl) "slice" :=⟨os,hos,hcs⟩
  unfold getItem
  try with_reducible refine wpAny_holding ?_
  first | refine wpAny_bind (wpAny_pure ?_) | skip
  refine wpAny_bind (wpAny_sequenceKey ht.typeIs (by decide) ?_)
  refine wpAny_bind (wpAny_callSpecial?_slot (name:=Str.ofString "__getitem__") ht.typeIs PyProof.Rows.slot_tuple_getitem
    (wpAny_call_entry PyProof.Rows.slot_tuple_getitem ht.typeIs PyProof.Rows.entry_tuple_getitem ?_ (args_tuple_getitem _ _)))
  show wpAny _ _ (Builtin.Tuple.tupleItemsOf (.ref t) >>= _) _ _ s
  refine wpAny_bind (tupleItemsOf_ ht ?_)
  refine wpAny_bind (wpAny_typeOf hTs ?_)
  rw[if_pos (by decide)]
  refine wpAny_bind (Mj hs ?_)
  show wpAny _ _ (if((items.size:Int)-1==0&&(-1:Int)==1&&items.size==items.size)=true then _ else _) _ _ s
  rw[if_neg (by simp),Vz items]
  first
    | exact wpAny_bind (m:=Builtin.Tuple.tupleExact _) (wpAny_newObj_type (wpAny_pure ⟨_,rfl,wpAny_pure hq⟩) hdrop)
    | exact wpAny_bind (m:=Builtin.Tuple.tupleExact _) (wpAny_newObj_type (wpAny_bind (wpAny_pure (wpAny_pure ⟨_,rfl,wpAny_pure hq⟩))) hdrop)
    | exact wpAny_bind (wpAny_bind (m:=Builtin.Tuple.tupleExact _) (wpAny_newObj_type (wpAny_pure (wpAny_pure ⟨_,rfl,wpAny_pure hq⟩)) hdrop))
    | exact wpAny_bind (wpAny_bind (m:=Builtin.Tuple.tupleExact _) (wpAny_newObj_type (wpAny_pure ⟨_,rfl,wpAny_pure hq⟩) hdrop))
theorem OS {e:Expr}{m:Ev}{kk:Nat}{p0 p₁ p₂ pos:Pos}(he:Av B n sc e m):
    Av B n sc (.Subscript e (.Slice none none (some (.UnaryOp .USub (.Constant (.int 1) kk p0) p₁)) p₂) pos) (L7 m):=by
  intro A E env s φ σ ρ x σ' O R I F h
  refine AY h fun x1 σ1 hm h=>Subscript_ (he.run O R I F hm fun v s1 φ1 G1 I1 r _=>wpAny_Slice (wpAny_evalPart_none (wpAny_evalPart_none (wpAny_evalPart_some (wpAny_UnaryOp (wpAny_Constant_int (neg_int ?_)))))))
  cases x1 with
  | tup xs=>
    refine gif h fun hc h=>spair h ?_
    obtain⟨a,items,ev,ht,q⟩:=r
    have hsz:xs.length=items.size:=q.length
    rw[ev]
    exact tail_any (T:= "tuple") (IsTuple.typeIs (EZ (Ax _) ht)) PyProof.Rows.slot_tuple_getitem.lookup
      (Ln (EZ (Ax _) ht) (Heap.IsSliceOf.new ..) (M6 I1 G1 q.reverse (t:=0)) (hsz▸Nat.le_trans (Nat.le_of_lt hc) Db)) rfl
  | loc l=>
    refine B7 (v:= .loc l) h fun l' xs el hl h=>spair h ?_
    obtain⟨a,items,ev,_,ht,q,hz⟩:=I1.list_at hl (el▸r)
    have hsz:xs.length=items.size:=q.length
    rw[ev]
    have ht':(s1.heap.push { cls:= .type "slice",data:= .fields #[.none,.none,.int (-1) (s1.toks+1)] }).IsList a items:=ht.elim fun o r=>⟨o,Ax _ _ _ r.1,r.2⟩
    refine tail_any (T:= "list") ht'.typeIs list_getitem_lookup (wpAny_getItem_list_slice ht' (Heap.IsSliceOf.new ..) .none .none (.int (-1) _) (by decide) ?_ (hsz▸Nat.le_trans hz Db)) rfl
    rw[krv_pick]
    have I2:Inv B φ1 σ1 { s1 with heap:=s1.heap.push { cls:= .type "slice",data:= .fields #[.none,.none,.int (-1) (s1.toks+1)] },toks:=s1.toks+1+1 }:=I1.keep (Ax _)
    exact(Hv (X:= []) I2 (q.reverse.keep (Ax _)) (Nat.le_trans (Nat.le_of_eq List.length_reverse) hz) (t:=s1.toks+1+1)).then (G1.trans (.keep (Ax _)))
  | _=>exact nomatch h
theorem Tl {a:Addr}{ep:Nat}{o:Obj}(ho:h.get? a=some o)(hc:o.ExactDict)(hd:o.data= .dict #[] ep):Hj B φ h [] a:=
  .inl ⟨[],⟨o, #[],ep,ho,hc,hd,fun _ h=>(nomatch h),.nil,.nil⟩,.nil⟩
theorem GP {pos:Pos}:Av B n sc (.Dict [] [] pos) IS:=
  fun _ _ _ _ _ _ _ _ _ _ _ I _ h=>spair h (wpAny_Dict_empty (Ig (r:= []) I (Ax _) (fun b hb=>List.mem_singleton.mp hb▸C5) (List.pairwise_singleton _ _)
    ⟨_,rfl,Tl (Heap.get?_push_size _ rfl) ⟨rfl,rfl,rfl⟩ rfl,Nat.zero_le _⟩ rfl (fun b hb=>Nat.le_of_eq (List.mem_singleton.mp hb).symm)))
theorem Grow.adopt {o:SObj}{as:List Addr}(G:Grow X φ σ h φ2 σ₂ h₂)(k:∀b ob,b∉as→h₂.get? b=some ob→h'.get? b=some ob)(hn:∀a,a∈as→h.get? a=none)
    (ha:∀a,a∈as→∃ob,h'.get? a=some ob):Grow X φ σ h (φ2 ++ [as]) (σ₂ ++ [o]) h':=by
  obtain⟨ψ,rfl,e1⟩:=G.ext
  refine⟨⟨ψ ++ [as],by simp,fun a q=>?_⟩,fun a ob e hx hl=>?_,fun l kv n e=>?_,fun a ob e=>?_⟩
  · rw[DT,HD,List.mem_append] at q
    exact q.elim (e1 a) (hn a)
  · refine k a ob (fun q=>by rw[hn a q] at e; cases e) (G.kept a ob e hx fun l bs hl' hm=>?_)
    obtain⟨kv,kv',n,p1,p2⟩:=hl l bs hl' hm
    obtain⟨k',n',p3,p4⟩:=G.vers l kv n p1
    rw[List.getElem?_append_left (List.getElem?_eq_some_iff.mp p3).1] at p2
    exact⟨kv,kv',n,p1,p2⟩
  · obtain⟨k',n',p3,p4⟩:=G.vers l kv n e
    exact⟨k',n',by rw[List.getElem?_append_left (List.getElem?_eq_some_iff.mp p3).1]; exact p3,p4⟩
  · obtain⟨o',ho'⟩:=G.alive a ob e
    by_cases hq:a∈as
    · exact ha a hq
    · exact⟨o',k a o' hq ho'⟩
theorem Hb (I:Inv B φ σ s){a:Addr}(ha:a∈own φ):∃o,s.heap.get? a=some o:=(I.live ha).elim fun o q=>⟨o,q.1⟩
theorem Tm {a:Addr}{h₁:Heap}(I:Inv B φ σ s)(hn:s.heap.get? a=none)(G:Grow X φ σ h₁ φ2 σ₂ h₂){o:Obj}(ho:h₁.get? a=some o):a∉own φ2:=by
  obtain⟨ψ,rfl,e1⟩:=G.ext
  rw[DT,List.mem_append]
  exact fun q=>q.elim (fun q=>(Hb I q).elim fun z hz=>Bs hz hn) fun q=>Bs ho (e1 a q)
theorem Tn (I:Inv B φ σ s){a:Addr}{o:Obj}(hn:s.heap.get? a=none)(G:Grow [] φ σ h₁ φ2 σ₂ h₂)(ho:h₁.get? a=some o):h₂.get? a=some o:=
  G.kept a o ho List.not_mem_nil fun l as hl hm=>(Hb I (BL hl hm)).elim fun z hz=>Bs hz hn
theorem RP {e₁ e₂:Expr}{m1 m2:Ev}{pos:Pos}(he1:Av B n sc e₁ m1)(he2:Av B n sc e₂ m2):Av B n sc (.Dict [some e₁] [e₂] pos) (Qk m1 m2):=by
  intro A E env s φ σ ρ x σ' O R I F h
  refine AY h fun x1 σ1 h1 h=>AY h fun x2 σ₂ h2 h=>gif h fun hi h=>spair h ?_
  refine wpAny_Dict_walk (knd:=intKind B.prog B.w) rfl rfl (fun q=>nomatch q) (Nat.le_of_ble_eq_true rfl) ?_
  have G0:Grow [] φ σ s.heap φ σ (s.heap.push { cls:= .type "dict",data:= .dict #[] }):= .keep (Ax _)
  have I0:Inv B φ σ { s with heap:=s.heap.push { cls:= .type "dict",data:= .dict #[] } }:=I.keep (Ax _)
  show wpAny _ _ (do
    let kv ←eval e₁ env
    let vv ←holding [kv] (do let x ←eval e₂ env; standAt pos; pure x)
    return (kv,vv)::(←holding [kv,vv] (evalPairs []))) _ _ _
  refine wpAny_bind (he1.run O R I0 (F.grow' I G0) h1 fun v1 s1 φ1 G1 I1 r1 F1=>wpAny_bind (wpAny_holding (wpAny_bind (he2.run O R I1 F1 h2 fun v2 s2 φ2 G2 I2 r2 _=>
    wpAny_bind (wpAny_standAt (wpAny_pure (wpAny_bind (wpAny_holding (wpAny_pure (wpAny_pure ?_))))))))))
  have G:=G1.trans G2
  have ho:=Heap.get?_push_size s.heap (o:={ cls:= .type "dict",data:= .dict #[] }) rfl
  have hno:=Tm I C5 G ho
  have hD2:s2.heap.DictOf (intKind B.prog B.w) s.heap.objs.size []:=
    (Heap.DictOf.new (knd:=intKind B.prog B.w) s.heap).elim fun o q=>q.elim fun es q=>q.elim fun ep q=>⟨o,es,ep,Tn I C5 G q.1,q.2⟩
  have r1':=G2.vrep I1 Bc r1
  cases x1 with
  | int i=>
    obtain⟨t,ev⟩:=r1'
    rw[ev]
    refine⟨[(i,v2)],⟨intKind_is _ _ _ _,rfl,trivial⟩,hD2,fun h' hd hs=>?_⟩
    have k:∀b ob,b ∉ [s.heap.objs.size]→s2.heap.get? b=some ob→h'.get? b=some ob:=fun b ob hb e=>(hs.2 b (fun q=>hb (q▸List.mem_singleton_self _))).trans e
    have nt:Dr [s.heap.objs.size] s2.heap:=fun a ha items ht=>hD2.elim fun o q=>q.elim fun es q=>q.elim fun ep q=>ht.elim fun o' q'=>
      Mf (q.2.1.1.symm.trans ((Option.some.inj (q.1.symm.trans (List.mem_singleton.mp ha▸q'.1))).symm▸q'.2.1))
    refine⟨φ2 ++ [[s.heap.objs.size]],(G0.trans G).adopt k (fun a ha=>List.mem_singleton.mp ha▸C5) (fun a ha=>List.mem_singleton.mp ha▸hd.elim fun o q=>q.elim fun es q=>q.elim fun ep q=>⟨o,q.1⟩),
      I2.adopt k (fun a ha=>List.mem_singleton.mp ha▸hno) (fun a ha=>List.mem_singleton.mp ha▸Dx I C5) nt (List.pairwise_singleton _ _) ⟨_,rfl,.inl ⟨[(i,v2)],hd,.cons ⟨rfl,?_⟩ .nil⟩,Nat.le_of_ble_eq_true rfl⟩
        (fun a ha=>List.mem_singleton.mp ha▸I.newMods (Nat.le_refl _)),_,Jt I2.len,rfl⟩
    exact r2.mono (fun _ _ q=>D5 q) fun a items q=>q.elim fun z q=>⟨z,k a z (fun hb=>nt a hb items ⟨z,q⟩) q.1,q.2⟩
  | _=>exact nomatch hi
end Mine
namespace Mine
open scoped Classical
open PySem PySem.W PySem.Calls PyProof.Rows
open Sem (wp)
variable {B:Base}{X:List Addr}{φ φ' φ1 φ2:Phi}{σ σ' σ1 σ₂:Hp}{h h' h₁ h₂:Heap}{s s' s1 s2:Shared}{n:Nat}{sc:Scope}{env:Env}{ρ ρ':Rho}{A:Around}{E:Value→Shared→Prop}
theorem Inv.inK (I:Inv B φ σ s):B.K.In s.heap:=B.inK.keeps I.base
theorem To {x:SV}{v:Value}(r:Al φ h x v):handedIn v=true:=by
  cases x with
  | none=>exact(show v= .none from r)▸rfl
  | bool b=>exact(show v= .bool b from r)▸rfl
  | int i=>exact r.elim fun _ e=>e▸rfl
  | str i=>exact r.elim fun _ e=>e▸rfl
  | tup xs=>exact r.elim fun _ r=>r.elim fun _ r=>r.1▸rfl
  | loc l=>exact r.elim fun _ r=>r.2▸rfl
theorem JU {fs:List (String×SV)}{es:List DictEntry}(q:EY φ h fs es):es.any (·.refKey)=false:=by
  induction q with
  | nil=>rfl
  | @cons f e fs es r _ ih=>
    obtain⟨⟨t,ht⟩,_⟩:=r
    simp only[List.any_cons,ih,Bool.or_false]
    unfold DictEntry.refKey
    rw[ht]
theorem M7 {fs:List (String×SV)}{es:List DictEntry}(q:EY φ h fs es)(f:String):
    (fs.lookup f=none∧getL (Str.ofString f) es=some none)∨∃x v,fs.lookup f=some x∧getL (Str.ofString f) es=some (some v)∧Al φ h x v:=by
  have hr:=JU q
  unfold getL
  have key:(fs.lookup f=none∧es.find? (·.key.isStr (Str.ofString f))=none)∨∃x e,fs.lookup f=some x∧es.find? (·.key.isStr (Str.ofString f))=some e∧Al φ h x e.val:=by
    clear hr
    induction q with
    | nil=>exact .inl ⟨rfl,rfl⟩
    | @cons g e fs es r _ ih=>
      obtain⟨g,x⟩:=g
      obtain⟨⟨t,ht⟩,hv⟩:=r
      by_cases e1:f=g
      · subst e1
        refine .inr ⟨x,e,by simp[List.lookup],?_,hv⟩
        simp[List.find?,ht,Value.isStr]
      · have e2:(Value.str (Str.ofString g) t).isStr (Str.ofString f)=false:=by
          simp only[Value.isStr,beq_eq_false_iff_ne]
          exact fun z=>e1 (DF z).symm
        have e3:(f==g)=false:=by simpa using e1
        simp only[List.lookup,e3,List.find?,ht,e2]
        exact ih
  rcases key with⟨a,b⟩ | ⟨x,e,a,b,c⟩
  · exact .inl ⟨a,by rw[b]; simp[hr]⟩
  · exact .inr ⟨x,e.val,a,by rw[b],c⟩
theorem GQ {a dx C:Addr}{es:List DictEntry}{k:Nat}(h1:h.get? a=some ⟨.ref C,some dx,.plain, #[]⟩)(h2:h.get? dx=some (dictOf es k)):
    InstAt h a ⟨.ref C,some dx,.plain, #[]⟩ C (some (dictOf es k)):=⟨h1,rfl,rfl,h2⟩
structure FieldOK (B:Base) (c f:String):Prop where
  plain:plainGet B.K (B.cls c) (Str.ofString f)=true
  has:hasDictIn B.K (B.cls c)=true
  none:findIn B.K (.ref (B.cls c)) (Str.ofString f)=some none
theorem Am {c f:String}{e:Expr}{m:Ev}{pos:Pos}(he:Av B n sc e m)(ok:FieldOK B c f)
    (ha:∀env whole,attributeBase e (Str.ofString f) env whole=whole:=by intro _ _; rfl):Av B n sc (.Attribute e (Str.ofString f) pos) (Aq c m f):=by
  intro A E env s φ σ ρ x σ' O R I F h
  refine Attribute_any_ (Tg (g:=fun _ v=>getAttr v (Str.ofString f) true) he (fun A E env s φ σ ρ x v y σ' O R I F r h=>?_) A E env s φ σ ρ x σ' O R I F h) (by rw[arm_eval_Attribute,ha])
  refine MM h fun l c' fs el hl h=>gif h fun hc h=>gmap h fun z hz h=>spair (congrArg some h) ?_
  obtain⟨a,dx,es,k,ev,hφ,h1,h2,q⟩:=I.inst_at hl (el▸r)
  rw[hc] at h1
  refine(M7 q f).elim (fun q=>Bs hz q.1) fun q=>q.elim fun z' q=>q.elim fun w q=>?_
  exact ev▸get_value I.inK (GQ h1 h2) (plainGet_of ok.plain).1 (findObj_own ok.has ok.none rfl q.2.1) (To q.2.2) (BS I (Option.some.inj (q.1.symm.trans hz)▸q.2.2))
theorem Grow.drop {h₁:Heap}(G:Grow X φ σ h₁ φ' σ' h₂)(k:∀b o,h.get? b=some o→h₁.get? b=some o)(hx:∀a,a∈X→h.get? a=none):Grow [] φ σ h φ' σ' h₂:=by
  obtain⟨ψ,e,e1⟩:=G.ext
  refine⟨⟨ψ,e,fun a ha=>?_⟩,fun a o ho _ hl=>G.kept a o (k a o ho) (fun q=>Bs ho (hx a q)) hl,G.vers,fun a o ho=>G.alive a o (k a o ho)⟩
  cases q:h.get? a with
  | none=>rfl
  | some o=>exact Bs (k a o q) (e1 a ha)
structure DefAt (B:Base) (f:Addr) (ps:List String) (body:List Stmt) (scope:Scope):Prop where
  is:∃oc od osl name qual params dV kV doc pm an cdv ct,B.K.lookup f=some ⟨oc,od,.func (fnX name qual params body scope [] dV kV doc pm an cdv ct),osl⟩∧codeIn B.K cdv qual=true∧
    ∀vals,vals.length=ps.length→bindArgs (fnX name qual params body scope [] dV kV doc pm an cdv ct) ⟨vals, []⟩=pure ((ps.map Str.ofString).zip vals)
  nodup:ps.Nodup
  kinds:(ps.all fun p=>scope.names.lookup (Str.ofString p)==some .local || scope.names.lookup (Str.ofString p)==some .cell)=true
  cellsNd:((cellsFrom 0 scope.names []).map (·.1)).Nodup
  co:scope.isCoroutine=false
  gen:scope.isGenerator=false
  kind:scope.kind= .function
theorem Lw {kindOf:Str→Option NameKind}:∀(ps:List String) (vs:List Value) (m:Str→Option Value) (x:String),x∉ps→bindL kindOf ((ps.map Str.ofString).zip vs) m (Str.ofString x)=m (Str.ofString x)
  | [],_,m,x,_=>by simp[bindL]
  | p::ps, [],m,x,_=>by simp[bindL]
  | p::ps,v::vs,m,x,hx=>by
    simp only[List.map_cons,List.zip_cons_cons,bindL]
    rw[Lw ps vs _ x (fun q=>hx (List.mem_cons_of_mem _ q))]
    split
    · exact if_neg fun e=>hx (by rw[DF e]; exact List.mem_cons_self)
    · rfl
theorem Uo {kindOf:Str→Option NameKind}{p:String}{v:Value}{m:Str→Option Value}(h:kindOf (Str.ofString p)=some .local):bindL kindOf (([p].map Str.ofString).zip [v]) m (Str.ofString p)=some v:=by
  simp only[List.map_cons,List.map_nil,List.zip_cons_cons,List.zip_nil_left,bindL]
  rw[if_pos h]
  simp
theorem Ly {kindOf:Str→Option NameKind}:∀(ps:List String) (vs:List Value) (m:Str→Option Value) (x:String),x∉ps→bindC kindOf ((ps.map Str.ofString).zip vs) m (Str.ofString x)=m (Str.ofString x)
  | [],_,m,x,_=>by simp[bindC]
  | p::ps, [],m,x,_=>by simp[bindC]
  | p::ps,v::vs,m,x,hx=>by
    simp only[List.map_cons,List.zip_cons_cons,bindC]
    rw[Ly ps vs _ x (fun q=>hx (List.mem_cons_of_mem _ q))]
    split
    · rfl
    · exact if_neg fun e=>hx (by rw[DF e]; exact List.mem_cons_self)
theorem Sn {kindOf:Str→Option NameKind}:∀(ps:List String) (xs:List SV) (vs:List Value) (m cm:Str→Option Value) (x:String) (y:SV),ps.Nodup→Ak φ h xs vs→(ps.zip xs).lookup x=some y→
    ∃u,Al φ h y u∧(kindOf (Str.ofString x)=some .local→bindL kindOf ((ps.map Str.ofString).zip vs) m (Str.ofString x)=some u)∧
      (kindOf (Str.ofString x)≠some .local→bindC kindOf ((ps.map Str.ofString).zip vs) cm (Str.ofString x)=some u)
  | [],_,_,m,cm,x,y,_,_,e=>by simp at e
  | p::ps, [],_,m,cm,x,y,_,_,e=>by simp at e
  | p::ps,z::xs,_,m,cm,x,y,hn,q,e=>by
    obtain⟨v,vs,rfl,r,q⟩:=q
    simp only[List.zip_cons_cons,List.lookup_cons] at e
    rw[List.nodup_cons] at hn
    by_cases hx:x=p
    · subst hx
      simp only[beq_self_eq_true] at e
      cases e
      refine⟨v,r,fun hk=>?_,fun hk=>?_⟩
      · simp only[List.map_cons,List.zip_cons_cons,bindL]
        rw[Lw ps vs _ x hn.1,if_pos hk]
        simp
      · simp only[List.map_cons,List.zip_cons_cons,bindC]
        rw[Ly ps vs _ x hn.1,if_neg hk]
        simp
    · have:(x==p)=false:=by simpa using hx
      rw[this] at e
      simp only[List.map_cons,List.zip_cons_cons,bindL,bindC]
      exact Sn ps xs vs _ _ x y hn.2 q e
theorem By.deeper (r:By A (n+1)):By (A.deeper env) n:=by
  obtain⟨r1,r2,r3⟩:=r
  exact⟨by show A.depth+1+4*n+20<_; omega,by show A.units+3+40*n+400<_; omega,r3⟩
noncomputable def VA (ps:List String)(scope:Scope):Bool:=decide ps.Nodup&&(ps.all fun p=>scope.names.lookup (Str.ofString p)==some .local || scope.names.lookup (Str.ofString p)==some .cell) &&
  decide ((cellsFrom 0 scope.names []).map (·.1)).Nodup&&(scope.isCoroutine==false)&&(scope.isGenerator==false)&&(scope.kind == .function)
theorem DefAt.of {f:Addr}{ps:List String}{body:List Stmt}{scope:Scope}{oc od osl name qual params dV kV doc pm an cdv ct}(hl:B.K.lookup f=some ⟨oc,od,.func (fnX name qual params body scope [] dV kV doc pm an cdv ct),osl⟩)(hc:codeIn B.K cdv qual=true)
    (hb:∀vals,vals.length=ps.length→bindArgs (fnX name qual params body scope [] dV kV doc pm an cdv ct) ⟨vals, []⟩=pure ((ps.map Str.ofString).zip vals)) (hd:VA ps scope=true):DefAt B f ps body scope:=by
  unfold VA at hd
  simp only[Bool.and_eq_true] at hd
  exact⟨⟨_,_,_,_,_,_,_,_,_,_,_,_,_,hl,hc,hb⟩,of_decide_eq_true hd.1.1.1.1.1,hd.1.1.1.1.2,of_decide_eq_true hd.1.1.1.2,by simpa using hd.1.1.2,by simpa using hd.1.2,by simpa using hd.2⟩
theorem Fp {α:Type}{P:List α→Prop}(h:∀a,P [a])(xs:List α)(e:xs.length=1):P xs:=by
  match xs,e with
  | [a],_=>exact h a
theorem VB {α:Type}{k:Nat}{P:List α→Prop}(h:∀a xs,xs.length=k→P (a::xs))(xs:List α)(e:xs.length=k+1):P xs:=by
  match xs,e with
  | a::xs,e=>exact h a xs (Nat.succ.inj e)
theorem E3 {α:Type}{P:List α→Prop}(h:∀a b,P [a,b])(xs:List α)(e:xs.length=2):P xs:=VB (fun a=>Fp (P:=fun x=>P (a::x)) (h a)) xs e
theorem Mk {α:Type}{P:List α→Prop}(h:∀a b c,P [a,b,c])(xs:List α)(e:xs.length=3):P xs:=VB (fun a=>E3 (P:=fun x=>P (a::x)) (h a)) xs e
theorem Xl {α:Type}{P:List α→Prop}(h:∀a b c d,P [a,b,c,d])(xs:List α)(e:xs.length=4):P xs:=VB (fun a=>Mk (P:=fun x=>P (a::x)) (h a)) xs e
theorem Wy {ps:List String}{x:Str×Value}{vs:List Value}(h:x∈(ps.map Str.ofString).zip vs):∃p∈ps,Str.ofString p=x.1:=List.mem_map.mp (List.of_mem_zip h).1
theorem Tp {y:String}{z:SV}:∀{ps:List String} {xs:List SV},(ps.zip xs).lookup y=some z→y∈ps:=by
  intro ps
  induction ps with
  | nil=>intro xs e; exact nomatch e
  | cons p ps ih=>
    intro xs e
    cases xs with
    | nil=>exact nomatch e
    | cons x xs=>
      rw[List.zip_cons_cons,List.lookup_cons] at e
      by_cases hy:y=p
      · exact hy▸List.mem_cons_self
      · rw[beq_eq_false_iff_ne.mpr hy] at e
        exact List.mem_cons_of_mem _ (ih e)
theorem Wc {f:Addr}{ps:List String}{body:List Stmt}{scope:Scope}{ρ:Rho}{xs:List SV}{vs:List Value}{R:Result→Shared→Prop}(D:DefAt B f ps body scope)(hlen:vs.length=ps.length)(Rm:By A (n+1))(I:Inv B φ σ s)
    (hq:∀y z,ρ.lookup y=some z→(ps.zip xs).lookup y=some z∧Ak φ s.heap xs vs)
    (hb:∀(env:Env) (h₁:Heap) (tk:Nat),EnvOK scope env→By (A.deeper env) n→(∀b o,s.heap.get? b=some o→h₁.get? b=some o)→(∀a,a∈Bx env→s.heap.get? a=none)→Inv B φ σ { s with heap:=h₁,toks:=tk }→
      FrameOK B env ρ φ h₁→h₁.Ns env.locals (bindL env.kindOf ((ps.map Str.ofString).zip vs) fun _=>none)→
      wpAny (model B.prog B.w) (A.deeper env) (execs body env) (fun f s'=>R (.ok (.ret (match f with | .ret v=>v | _=> .none))) s')
        (fun e s'=>wpAny (model B.prog B.w) (A.deeper env) (leaving env e) (fun _ s''=>R (.error e) s'') (fun e' s''=>R (.error e') s'') s') { s with heap:=h₁,toks:=tk }):
    codeAny (model B.prog B.w) A (.call (.ref f) ⟨vs, []⟩) R s:=by
  obtain⟨oc,od,osl,name,qual,params,dV,kV,doc,pm,an,cdv,ct,hl,hcd,hbind⟩:=D.is
  refine(codeAny_call_function Rm.depth (I.inK _ _ hl) rfl D.co D.gen rfl (codeRec_of I.inK hcd) ?_)
  rw[hbind vs hlen]
  have hkinds:∀k,∀x∈(ps.map Str.ofString).zip vs,scope.names.lookup x.1=some .local∨(scope.names.lookup x.1=some .cell∧((cellsFrom k scope.names []).lookup x.1).isSome=true):=
    kindsX (List.all_eq_true.mpr fun y hy=>(Wy hy).elim fun p hp=>hp.2▸List.all_eq_true.mp D.kinds p hp.1)
  refine wpAny_pure (wpAny_newFunctionEnv_cells D.kind (hkinds _) fun env he s1 x1=>?_)
  obtain⟨h₁,tk,rfl,hk1⟩:=x1.done
  refine⟨(B.top.nolimit.keeps I.base).keeps hk1,codeAny_func ?_⟩
  have O:EnvOK scope env:=he▸⟨rfl,D.kind,rfl,rfl⟩
  have hL:env.locals=s.heap.objs.size:=he▸rfl
  have hC:env.cells=cellsFrom (s.heap.objs.size+1) scope.names []:=he▸rfl
  have hks:∀y,env.kindOf y=scope.names.lookup y:=fun y=>by rw[Env.kindOf,O.scope]
  have hfr:∀a,a∈Bx env→s.heap.get? a=none:=fun a ha=>by
    have hge:s.heap.objs.size≤a:=by
      rcases List.mem_cons.mp ha with e | ha
      · exact Nat.le_of_eq (hL.symm.trans e.symm)
      · obtain⟨p,hp,e⟩:=List.mem_map.mp ha
        exact Nat.le_of_lt (hL▸e▸x1.above p.1 p.2 hp)
    cases q:s.heap.get? a with
    | none=>rfl
    | some o=>exact absurd (Heap.lt_size q) (Nat.not_lt.mpr hge)
  have cell:∀y,env.kindOf y=some .cell→∃c,env.cells.lookup y=some c:=fun y hy=>
    Option.isSome_iff_exists.mp (hC▸cellsFrom_some _ _ _ (.inl ((hks y).symm.trans hy)))
  refine hb env h₁ tk O Rm.deeper hk1 hfr (I.keep hk1) ⟨⟨_,x1.toInCall.ns,fun y z e=>?_⟩,fun y hy=>(cell y hy).elim fun c hc=>⟨c,_,hc,x1.cell _ c hc⟩,x1.apart,
    fun y c hm=>⟨_,x1.cell y c (lookup_of_mem_nodup (hC▸cellsFrom_names scope.names 0 (s.heap.objs.size+1) [] [] rfl▸D.cellsNd) hm)⟩,fun a ha hq=>?_,fun a ha=>Dx I (hfr a ha)⟩ x1.toInCall.ns
  · have hq:=hq y z e
    obtain⟨u,hu,p1,p2⟩:=Sn (kindOf:=env.kindOf) ps xs vs (fun _=>none) (fun _=>none) y z D.nodup hq.2 hq.1
    refine⟨u,?_,hu.keep hk1⟩
    by_cases hkl:env.kindOf (Str.ofString y)=some .local
    · exact .inl ⟨hkl,p1 hkl⟩
    · have hkk:=List.all_eq_true.mp D.kinds y (Tp hq.1)
      rw[←hks] at hkk
      have hc:env.kindOf (Str.ofString y)=some .cell:=(Bool.or_eq_true_iff.mp hkk).elim (fun z=>absurd (eq_of_beq z) hkl) eq_of_beq
      exact(cell _ hc).elim fun c hcl=> .inr ⟨hc,c,hcl,p2 hkl▸x1.cell _ c hcl⟩
  · obtain⟨o,ho⟩:=Hb I hq
    rw[hfr a ha] at ho; cases ho
theorem VC {ps:List String}{m:Ex}{xs:List SV}{x:SV}(h:BR ps m xs σ=some (x,σ')):xs.length=ps.length∧∃f ρ',m (ps.zip xs) σ=some (f,ρ',σ')∧(match f with | .ret v=>v | .next=> .none)=x:=
  gif (a:=match m (ps.zip xs) σ with | some (.ret v,_,σ')=>some (v,σ') | some (.next,_,σ')=>some (.none,σ') | none=>none) h fun e h=>⟨e,by
    cases hm:m (ps.zip xs) σ with
    | none=>rw[hm] at h; exact nomatch h
    | some p=>
      rw[hm] at h
      obtain⟨f,ρ1,σ1⟩:=p
      cases f with
      | next=>exact⟨.next,ρ1,congrArg (fun z=>some (Flw.next,ρ1,z)) (pinj h).2,(pinj h).1⟩
      | ret v=>exact⟨.ret v,ρ1,congrArg (fun z=>some (Flw.ret v,ρ1,z)) (pinj h).2,(pinj h).1⟩⟩
theorem AI {f:Addr}{ps:List String}{body:List Stmt}{scope:Scope}{m:Ex}(D:DefAt B f ps body scope)(hb:EE B n scope body m):Be B (n+1) (.ref f) (BR ps m):=by
  intro A E s φ σ xs vs x σ' R I q hf
  obtain⟨hlen,fl,ρ1,hx,hv⟩:=VC hf
  refine Wc D (q.length▸hlen) R I (fun y z e=>⟨e,q⟩) fun env h₁ tk O R' hk1 hfr I1 F1 _=>wpAny_mono (hb _ _ env _ φ σ (ps.zip xs) _ ρ1 σ' O R' I1 F1 hx) (fun fl' s2 z=>?_) fun _ _ e=>e
  obtain⟨φ2,G,I2,F2,r⟩:=z
  refine⟨φ2,G.drop hk1 hfr,I2,?_⟩
  cases fl with
  | next=>rw[show fl'= .next from r, ←hv]; rfl
  | ret y=>obtain⟨v,e,r⟩:=r; rw[e, ←hv]; exact r
theorem Jy {f:Value}:Be B n f fun _ _=>none:=fun _ _ _ _ _ _ _ _ _ _ _ _ h=>nomatch h
theorem Be.up {f:Value}{fn:Fn}{k:Nat}(hc:Be B k f fn)(hk:Nat.ble k n=true):Be B n f fn:=
  have hk:=Nat.le_of_ble_eq_true hk
  fun A E s φ σ xs vs x σ' R=>hc A E s φ σ xs vs x σ' ⟨Nat.lt_of_le_of_lt (Nat.add_le_add_right (Nat.add_le_add_left (Nat.mul_le_mul_left 4 hk) _) _) R.1,Nat.lt_of_le_of_lt (Nat.add_le_add_right (Nat.add_le_add_left (Nat.mul_le_mul_left 40 hk) _) _) R.2.1,R.2.2⟩
theorem Fs {α:Type}{sc:Scope}{F:Env→α}{a:α}(h:∀env:Env,F { env with scope:=sc }=a)(env:Env)(e:env.scope=sc):F env=a:=by
  subst e; exact h env
theorem Be.call {f:Value}{fn:Fn}(hc:Be B n f fn){xs:List SV}{vs:List Value}{x:SV}(R:By A n)(I:Inv B φ σ s)(q:Ak φ s.heap xs vs)(hf:fn xs σ=some (x,σ')):
    wpAny (model B.prog B.w) A (PySem.call f vs) (BO B [] φ σ s.heap x σ') E s:=wpAny_call (hc A E s φ σ xs vs x σ' R I q hf)
theorem Lz {x:String}{v:Value}{pos:Pos}{Q:Value→Shared→Prop}(O:EnvOK sc env)(I:Inv B φ σ s)(hx:sc.names.lookup (Str.ofString x)=some .globalImplicit)
    (e:nsIn B.K mainGlobals (Str.ofString x)=some (some v)) (hq:Q v s) (hd:(Str.ofString x==("__debug__" :Str))=false:=by decide):wpAny (model B.prog B.w) A (eval (.Name (Str.ofString x) pos) env) Q E s:=
  Name_function_global (by rw[O.scope]; exact O.kind) (by rw[Env.kindOf,O.scope]; exact hx)
    (loadGlobal_global (by rw[O.globals]; exact B.top.g.keeps I.base) (mg_of B.inK B.top.g e) hq) hd
theorem HO {x:String}{v:Value}{pos:Pos}{Q:Value→Shared→Prop}(O:EnvOK sc env)(I:Inv B φ σ s)(hx:sc.names.lookup (Str.ofString x)=some .globalImplicit)
    (e:nsIn B.K mainGlobals (Str.ofString x)=some none) (hv:bootBuiltins (Str.ofString x)=some v) (hn:Str.ofString x≠ "__name__") (hq:Q v s)
    (hd:(Str.ofString x==("__debug__" :Str))=false:=by decide):wpAny (model B.prog B.w) A (eval (.Name (Str.ofString x) pos) env) Q E s:=
  Name_function_global (by rw[O.scope]; exact O.kind) (by rw[Env.kindOf,O.scope]; exact hx)
    (loadGlobal_builtin (by rw[O.globals]; exact B.top.g.keeps I.base) (mg_none_of B.inK B.top.g e) (by rw[O.builtins]; exact B.top.b.keeps I.base) ((B.top.builtins _ hn).trans hv) hq) hd
theorem HP {f:Value}{args:List (Bool×Sem Value)}{Q:Args→Shared→Prop}(hpl:args.any (·.1)=false)(run:wpAny (model B.prog B.w) A (spliced args) (fun vs s1=>Q ⟨vs, []⟩ s1) E s):wpAny (model B.prog B.w) A (evalArgs f true args []) Q E s:=by
  cases args with
  | nil=>
    show wpAny _ _ (spliced [] >>= _) _ _ s
    exact wpAny_bind (wpAny_mono run (fun vs s1 q=>wpAny_bind (wpAny_pure (wpAny_holding (wpAny_bind (wpAny_pure (wpAny_bind (wpAny_pure (wpAny_pure q)))))))) fun _ _ e=>e)
  | cons p r=>
    obtain⟨b,t⟩:=p
    cases b with
    | true=>exact nomatch hpl
    | false=>exact evalArgs_plain run
theorem IF {f:Value}{first:List Value}{es:List Expr}{ms:List Ev}{pos:Pos}{Q:Value→Shared→Prop}{xs:List SV}(hk:keepIn B.K f=true)(hes:DU B n sc es ms)
    (O:EnvOK sc env) (R:By A n) (I:Inv B φ σ s) (F:FrameOK B env ρ φ s.heap) (h:evs ms ρ σ=some (xs,σ1))
    (hst:∀env pos,(backTo pos (starEach es env)).any (·.1)=false)
    (hq:∀vs s1,IW B [] φ σ s.heap xs σ1 vs s1→wpAny (model B.prog B.w) A (call f (first++vs)) Q E s1):
    wpAny (model B.prog B.w) A (callWith pos f first (backTo pos (starEach es env)) []) Q E s:=by
  exact callWith_of (by rw[hst]; rfl) (keeps_K hk) (HP (hst env pos) (hes.run O R I F h fun vs s1 φ1 G1 I1 r₁ _=>⟨I1.inK,hq vs s1 ⟨φ1,G1,I1,r₁⟩⟩))
end Mine
namespace Mine
open scoped Classical
open PySem PySem.W PySem.Calls PyProof.Rows
open Sem (wp)
variable {B:Base}{X:List Addr}{φ φ' φ1 φ2:Phi}{σ σ' σ1 σ₂:Hp}{h h' h₁ h₂:Heap}{s s' s1 s2:Shared}{n:Nat}{sc:Scope}{env:Env}{ρ ρ':Rho}{A:Around}{E:Value→Shared→Prop}
structure GlobOK (B:Base) (sc:Scope) (x:String) (a:Addr):Prop where
  kind:sc.names.lookup (Str.ofString x)=some .globalImplicit
  at_:nsIn B.K mainGlobals (Str.ofString x)=some (some (.ref a))
  keep:keepIn B.K (.ref a)=true
  nodebug:(Str.ofString x==("__debug__" :Str))=false
theorem BA {x:String}{a:Addr}{fn:Fn}{es:List Expr}{ms:List Ev}{np pos:Pos}(ok:GlobOK B sc x a)(hc:Be B n (.ref a) fn)(hes:DU B n sc es ms)
    (hst:∀env pos,(backTo pos (starEach es env)).any (·.1)=false:=by intro _ _; rfl):Av B n sc (.Call (.Name (Str.ofString x) np) es [] pos) (Bj fn ms):=by
  intro A E env s φ σ ρ y σ' O R I F h
  refine AY h fun vs σ1 hm h=>wpAny_Call_NameR (Lz O I ok.kind ok.at_ (IF (first:= []) ok.keep hes O R I F hm hst fun us s1 q=>?_) ok.nodebug)
  exact q.elim fun φ1 q=>CP q.1 (hc.call R q.2.1 q.2.2 h)
theorem Tq {c name:String}{v:SV}{P:Prop}(h:MQ c name v σ=true)(k:∀l fs,v= .loc l→σ[l]? =some (.inst c fs)→fs.lookup name=none→P):P:=by
  cases v with
  | loc l=>
    replace h:(match σ[l]? with | some (.inst c' fs)=>c'=c&&(fs.lookup name).isNone | _=>false)=true:=h
    cases e:σ[l]? with
    | none=>rw[e] at h; exact nomatch h
    | some o=>
      rw[e] at h
      cases o with
      | inst c' fs=>
        have q:=Bool.and_eq_true_iff.mp h
        exact k l fs rfl (e.trans (of_decide_eq_true q.1▸rfl)) (Option.isNone_iff_eq_none.mp q.2)
      | _=>exact nomatch h
  | _=>exact nomatch h
structure MethOK (B:Base) (c name:String) (f:Addr):Prop where
  plain:plainGet B.K (B.cls c) (Str.ofString name)=true
  find:findIn B.K (.ref (B.cls c)) (Str.ofString name)=some (some (.ref f))
  fn:isFn B.K (.ref f)=true
  keep:keepIn B.K (.ref f)=true
theorem HQ {o:Expr}{name:Str}{apos pos:Pos}{es:List Expr}(hbase:∀env whole,attributeBase o name env whole=whole)
    (hform:∀env,methodCallForm es.length (backTo pos (starEach es env)) []=true) (hline:(apos.endLine==pos.line)=true):
    eval (.Call (.Attribute o name apos) es [] pos) env=(do
      let ov ←eval o env
      standAt apos.atName
      let (f,first) ←holding [ov] (getMethod ov name (do return (←importBound o env).getD true))
      callWith pos f first (backTo pos (starEach es env)) []):=by
  show(do
    let ov ←attributeBase o name env (eval o env)
    standAt apos.atName
    methodCall o name apos pos env ov (es.length+0) (backTo pos (starEach es env)) (backToKw pos (keywordEach [] env)))=_
  rw[hbase]
  congr 1
  funext ov
  congr 1
  funext _
  unfold methodCall calleeOf methodCallPos
  have e:methodCallForm (es.length+0) (backTo pos (starEach es env)) (backToKw pos (keywordEach [] env))=true:=hform env
  rw[e]
  simp only[if_true,Bool.not_true,hline,Bool.or_true]
  rfl
theorem Ay {c name:String}{f:Addr}{fn:Fn}{o:Expr}{m:Ev}{es:List Expr}{ms:List Ev}{apos pos:Pos}(ok:MethOK B c name f)(hc:Be B n (.ref f) fn)(ho:Av B n sc o m)(hes:DU B n sc es ms)
    (hbase:∀env whole,attributeBase o (Str.ofString name) env whole=whole:=by intro _ _; rfl)
    (hform:∀env,methodCallForm es.length (backTo pos (starEach es env)) []=true:=by intro _; rfl) (hline:(apos.endLine==pos.line)=true:=by rfl)
    (hst:∀env pos,(backTo pos (starEach es env)).any (·.1)=false:=by intro _ _; rfl):Av B n sc (.Call (.Attribute o (Str.ofString name) apos) es [] pos) (AB c name fn m ms):=by
  intro A E env s φ σ ρ y σ' O R I F h
  refine AY h fun x σ1 hm h=>gif h fun hin h=>AY h fun vs σ₂ hms h=>MethodCall_ (ho.run O R I F hm fun ov s1 φ1 G1 I1 r1 F1=>Tq hin fun l fs ex hl hno=>?_) (HQ hbase hform hline)
  obtain⟨a,dx,es',k,ev,hφ,h1,h2,qf⟩:=I1.inst_at hl (ex▸r1)
  have hl':getL (Str.ofString name) es'=some none:=(M7 qf name).elim (fun q=>q.2) fun q=>q.elim fun z q=>Bs q.choose_spec.1 hno
  rw[ev] at r1 ⊢
  refine method_fn I1.inK (GQ h1 h2) (plainGet_of ok.plain).1 (plainGet_of ok.plain).2 ok.find (beq_iff_eq.mp ok.fn) (by show(lookIn _ (dictOf es' k)).map _=_; rw[lookIn_dict,hl']; rfl) ?_
  refine IF (first:= [.ref a]) ok.keep hes O R I1 F1 hms hst fun us s2 q=>q.elim fun φ2 q=>?_
  exact CP (G1.trans q.1) (hc.call R q.2.1 (Ak.cons'.mpr ⟨q.1.vrep I1 Bc r1,q.2.2⟩) h)
structure ClsOK (B:Base) (c:String) (f:Addr):Prop where
  makes:makesIn B.K (B.cls c)=true
  init:findIn B.K (.ref (B.cls c)) "__init__" =some (some (.ref f))
  fn:isFn B.K (.ref f)=true
  setattr:findIn B.K (.ref (B.cls c)) "__setattr__" =some (some (.builtin "object.__setattr__"))
  plain:plainOver B.K (B.cls c)=true
  has:hasDictIn B.K (B.cls c)=true
theorem By.make {C:Addr}{pos:List Value}(r:By A (n+1)):By (A.under (.builtin "type.__call__" ⟨.ref C::pos, []⟩)) n:=
  ⟨show A.depth+1+4*n+20<_ by have:=r.1; omega,show A.units+1+40*n+400<_ by have:=r.2.1; omega,r.2.2⟩
theorem Hc {c:String}{f:Addr}{fn:Fn}{es:List Expr}{ms:List Ev}{np pos:Pos}(ok:GlobOK B sc c (B.cls c))(co:ClsOK B c f)(hc:Be B n (.ref f) fn)(hes:DU B (n+1) sc es ms)
    (hst:∀env pos,(backTo pos (starEach es env)).any (·.1)=false:=by intro _ _; rfl):Av B (n+1) sc (.Call (.Name (Str.ofString c) np) es [] pos) (Iy c fn ms):=by
  intro A E env s φ σ ρ y σ' O R I F h
  refine AY h fun vs σ1 hm h=>AY h fun v σ₂ hi h=>gif h fun hv h=>spair h (wpAny_Call_NameR (Lz O I ok.kind ok.at_ (IF (first:= []) ok.keep hes O R I F hm hst fun us s1 q=>wpAny_call ?_) ok.nodebug))
  rw[MK hv] at hi
  obtain⟨φ1,G1,I1,r1⟩:=q
  obtain⟨hp,g,d,t,os⟩:=s1
  refine make_core (makes_of I1.inK co.makes) (looks_findIn I1.inK co.init) (fun self=>bind_fn I1.inK self (beq_iff_eq.mp co.fn)) (.inl rfl) ?_
  have k:∀b o,hp.get? b=some o→((hp.push emptyDict).push (instObj (B.cls c) hp.objs.size)).get? b=some o:=fun b o e=>Ax _ _ _ (Ax _ _ _ e)
  have hx:((hp.push emptyDict).push (instObj (B.cls c) hp.objs.size)).get? (hp.objs.size+1)=some (instObj (B.cls c) hp.objs.size):=
    Heap.size_push hp emptyDict▸Heap.get?_push_size (hp.push emptyDict) (o:=instObj (B.cls c) hp.objs.size) rfl
  have hge:∀b,b∈ [hp.objs.size+1,hp.objs.size]→hp.objs.size≤b:=fun b hb=>(List.mem_cons.mp hb).elim (fun e=>e▸Nat.le_succ _) fun hb=>Nat.le_of_eq (List.mem_singleton.mp hb).symm
  have hn:∀b,b∈ [hp.objs.size+1,hp.objs.size]→hp.get? b=none:=fun b hb=>by
    cases q:hp.get? b with
    | none=>rfl
    | some o=>exact absurd (Heap.lt_size q) (Nat.not_lt.mpr (hge b hb))
  have I2:Inv B (φ1 ++ [[hp.objs.size+1,hp.objs.size]]) (σ1 ++ [.inst c []]) ⟨(hp.push emptyDict).push (instObj (B.cls c) hp.objs.size),g,d,t,os⟩:=
    I1.new k hn (List.nodup_cons.mpr ⟨fun q=>Nat.succ_ne_self _ (List.mem_singleton.mp q),List.pairwise_singleton _ _⟩) ⟨_,_, [],0,rfl,hx,Ax _ _ _ (Heap.get?_push_size _ rfl),.nil⟩ (fun b hb=>I1.newMods (hge b hb))
  have G2:Grow [] φ1 σ1 hp (φ1 ++ [[hp.objs.size+1,hp.objs.size]]) (σ1 ++ [.inst c []]) ((hp.push emptyDict).push (instObj (B.cls c) hp.objs.size)):= .new k hn
  have rl:Al (φ1 ++ [[hp.objs.size+1,hp.objs.size]]) ((hp.push emptyDict).push (instObj (B.cls c) hp.objs.size)) (.loc σ1.length) (.ref (hp.objs.size+1)):=⟨_,Jt I1.len,rfl⟩
  refine codeAny_mono (hc _ E _ _ _ _ _ _ _ (R.make) I2 (Ak.cons'.mpr ⟨rl,G2.vreps I1 Bc r1⟩) hi) fun r s2 z=>?_
  rcases r with e | (v | _ | _ | _)
  · exact z
  · exact z.elim
  · exact z.elim
  · exact z.elim
  · exact z.elim fun φ3 z=>⟨z.2.2,φ3,(G1.trans G2).trans z.1,z.2.1,z.1.vrep I2 Bc rl⟩
end Mine
namespace Mine
open scoped Classical
open PySem PySem.W PySem.Calls PyProof.Rows
open Sem (wp)
variable {B:Base}{X:List Addr}{φ φ' φ1 φ2:Phi}{σ σ' σ1 σ₂:Hp}{h h' h1 h2:Heap}{s s' s1 s2:Shared}{n:Nat}{sc:Scope}{env:Env}{ρ ρ':Rho}{A:Around}{E:Value→Shared→Prop}
theorem Gz {α β:Type} [BEq α] [LawfulBEq α] [DecidableEq α]{k a:α}{b:β}{es:List (α×β)}:((a,b)::es).lookup k=if k=a then some b else es.lookup k:=by
  rw[List.lookup_cons]
  by_cases h:k=a
  · rw[if_pos h,beq_iff_eq.mpr h]
  · rw[if_neg h,beq_eq_false_iff_ne.mpr h]
theorem AK (ρ:Rho)(x y:String)(v:SV):(ρ.put x v).lookup y=if y=x then some v else ρ.lookup y:=by
  induction ρ with
  | nil=>exact Gz
  | cons p r ih=>
    obtain⟨z,w⟩:=p
    show(if z=x then(x,v)::r else(z,w)::Rho.put r x v).lookup y=_
    by_cases hz:z=x
    · rw[if_pos hz,Gz,Gz,hz]
      by_cases e:y=x
      · rw[if_pos e,if_pos e]
      · rw[if_neg e,if_neg e,if_neg e]
    · rw[if_neg hz,Gz,Gz,ih]
      by_cases e:y=x
      · rw[if_pos e,if_neg (fun q=>hz (q.symm.trans e)),if_pos e]
      · rw[if_neg e,if_neg e]
theorem M8 (I:Inv B φ σ s)(F:FrameOK B env ρ φ s.heap){a:Addr}(ha:a∈Bx env)(hs:Heap.SameBut a s.heap h')(hal:∃o,h'.get? a=some o){t:Nat}:
    Inv B φ σ { s with heap:=h',toks:=t }∧Grow [a] φ σ s.heap φ σ h'∧(∀b items,s.heap.IsTuple b items→h'.IsTuple b items):=by
  have hno:=F.notOwn a ha
  have hb:=F.above a ha
  have k:∀b ob,b≠a→s.heap.get? b=some ob→h'.get? b=some ob:=fun b ob hne e=>(hs.2 b hne).trans e
  have tk:∀b items,s.heap.IsTuple b items→h'.IsTuple b items:=fun b items q=>q.elim fun o q=>⟨o,k b o (fun e=>F.noTups a ha items (e▸⟨o,q⟩)) q.1,q.2⟩
  refine⟨⟨fun b o e=>k b o (fun q=>Bs e (q▸hb)) (I.base b o e),I.gens,I.os,I.len,I.nodup,I.above,I.mods,fun i o as e1 e2=>
    (I.objs i o as e1 e2).mono (fun _ _ q=>q) tk fun b hb' ob e=>k b ob (fun q=>hno (q▸BL e2 hb')) e⟩,?_,tk⟩
  refine⟨⟨[],(List.append_nil _).symm,fun _=>Kf⟩,fun b o e hx _=>k b o (fun q=>hx (q▸List.mem_singleton_self _)) e,fun l kv n e=>⟨kv,n,e,Nat.le_refl _⟩,fun b o e=>?_⟩
  by_cases q:b=a
  · exact q▸hal
  · exact⟨o,k b o q e⟩
theorem FrameOK.put {x:String}{y:SV}{v:Value}{m m':Str→Option Value}(F:FrameOK B env ρ φ h)(up:∀z u,Al φ h z u→Al φ h' z u)(hm:∀x v,ρ.lookup x=some v→∃u,Kh env h m (Str.ofString x) u∧Al φ h v u)(hn':h'.Ns env.locals m')
    (keep:∀y' u,Str.ofString y'≠Str.ofString x→Kh env h m (Str.ofString y') u→Kh env h' m' (Str.ofString y') u) (new:Kh env h' m' (Str.ofString x) v) (r:Al φ h y v) (kc:∀y c w,(y,c)∈env.cells→h.IsCell c w→∃w',h'.IsCell c w'):
    FrameOK B env (ρ.put x y) φ h':=
  ⟨⟨m',hn',fun y' z e=>by
    rw[AK] at e
    by_cases q:y'=x
    · rw[if_pos q] at e; exact⟨v,q▸new,Option.some.inj e▸up _ _ r⟩
    · rw[if_neg q] at e; exact(hm y' z e).elim fun u p=>⟨u,keep y' u (fun z=>q (DF z)) p.1,up _ _ p.2⟩⟩,
   fun y' hy=>(F.cells y' hy).elim fun c q=>q.elim fun w q=>(kc y' c w (mem_of_lookup q.1) q.2).elim fun w' q'=>⟨c,w',q.1,q'⟩,F.apart,fun y' c hm=>(F.alive y' c hm).elim fun w hw=>kc y' c w hm hw,F.notOwn,F.above⟩
theorem So {a:Addr}{m:Str→Option Value}{w:Option Value}{P:Prop}(hn:h.Ns a m)(hc:h.IsCell a w):P:=
  hn.elim fun o q=>q.elim fun es q=>q.elim fun ep q=>hc.elim fun o' q'=>nomatch (q.2.1.symm.trans (congrArg Obj.data (Option.some.inj (q.1.symm.trans q'.1)))).trans q'.2
noncomputable def IY (sc:Scope)(x:String):Prop:=sc.names.lookup (Str.ofString x)=some .local
theorem OT {x:String}{y:SV}{v:Value}(O:EnvOK sc env)(I:Inv B φ σ s)(F:FrameOK B env ρ φ s.heap)(r:Al φ s.heap y v)(hk:IY sc x){Q:Unit→Shared→Prop}
    (hq:∀s',Grow [env.locals] φ σ s.heap φ σ s'.heap→Inv B φ σ s'→FrameOK B env (ρ.put x y) φ s'.heap→(∀z u,Al φ s.heap z u→Al φ s'.heap z u)→Q () s'):
    wpAny (model B.prog B.w) A (storeName env (Str.ofString x) v) Q E s:=by
  have hkind:env.scope.kind= .function:=O.scope▸O.kind
  obtain⟨m,hn,hv⟩:=F.ns
  have hk:env.kindOf (Str.ofString x)=some .local:=by rw[Env.kindOf,O.scope]; exact hk
  refine wpAny_storeName_local hk hn (fun h' hn' hs=>?_) (by rw[hkind]; rfl)
  obtain⟨I',G',tk⟩:=M8 I F List.mem_cons_self hs (hn'.elim fun o q=>q.elim fun _ q=>q.elim fun _ q=>⟨o,q.1⟩) (t:=s.toks+1)
  have up:∀z u,Al φ s.heap z u→Al φ h' z u:=fun z u q=>q.mono (fun _ _ e=>e) tk
  have kc:∀c w,s.heap.IsCell c w→h'.IsCell c w:=fun c w hc=>hc.sameBut hs fun e=>So hn (e▸hc)
  exact hq _ G' I' (F.put up hv hn' (fun y' u e q=>q.elim (fun q=> .inl ⟨q.1,(if_neg e).trans q.2⟩) fun q=> .inr ⟨q.1,q.2.elim fun c p=>⟨c,p.1,kc c _ p.2⟩⟩) (.inl ⟨hk,if_pos rfl⟩) r fun _ c w _ hc=>⟨w,kc c w hc⟩) up
theorem GA {x:String}{y:SV}{v:Value}(O:EnvOK sc env)(I:Inv B φ σ s)(F:FrameOK B env ρ φ s.heap)(r:Al φ s.heap y v)
    (hk:sc.names.lookup (Str.ofString x)=some .local∨sc.names.lookup (Str.ofString x)=some .cell) {Q:Unit→Shared→Prop}
    (hq:∀s',Grow (Bx env) φ σ s.heap φ σ s'.heap→Inv B φ σ s'→FrameOK B env (ρ.put x y) φ s'.heap→(∀z u,Al φ s.heap z u→Al φ s'.heap z u)→Q () s'):
    wpAny (model B.prog B.w) A (storeName env (Str.ofString x) v) Q E s:=by
  refine hk.elim (fun hk=>OT O I F r hk fun s' G=>hq s' (G.weaken fun a ha=>List.mem_singleton.mp ha▸List.mem_cons_self)) fun hk=>?_
  obtain⟨m,hn,hv⟩:=F.ns
  have hk:env.kindOf (Str.ofString x)=some .cell:=by rw[Env.kindOf,O.scope]; exact hk
  obtain⟨c,v0,hc,hcell⟩:=F.cells _ hk
  have hmem:c∈Bx env:=List.mem_cons_of_mem _ (List.mem_map.mpr ⟨_,mem_of_lookup hc,rfl⟩)
  refine wpAny_storeName_cell (O.scope▸O.kind) hk hc hcell fun h' hcell' hs=>?_
  obtain⟨I',G',tk⟩:=M8 I F hmem hs (hcell'.elim fun o q=>⟨o,q.1⟩) (t:=s.toks)
  have up:∀z u,Al φ s.heap z u→Al φ h' z u:=fun z u q=>q.mono (fun _ _ e=>e) tk
  refine hq _ (G'.weaken fun a ha=>List.mem_singleton.mp ha▸hmem) I' (F.put up hv (hn.sameBut hs fun e=>So hn (e▸hcell)) (fun y' u e q=>q.imp id fun q=>⟨q.1,q.2.elim fun c' p=>⟨c',p.1,p.2.sameBut hs fun z=>e (name_of_addr F.apart (mem_of_lookup (z▸p.1)) (mem_of_lookup hc))⟩⟩)
    (.inr ⟨hk,c,hc,hcell'⟩) r fun y c' w _ p=>?_) up
  by_cases e:c'=c
  · exact⟨_,e▸hcell'⟩
  · exact⟨w,p.sameBut hs e⟩
theorem Gd.then {f:Flw}(G:Grow (Bx env) φ σ h φ1 σ1 h1){fl:Flow}(q:Gd B env φ1 σ1 h1 f ρ' σ₂ fl s'):Gd B env φ σ h f ρ' σ₂ fl s':=by
  obtain⟨φ',G',I',F',r⟩:=q
  exact⟨φ',G.trans G',I',F',r⟩
theorem IG {c:Sem Flow}{f:Flw}(G:Grow (Bx env) φ σ h φ1 σ1 h1)(q:wpAny (model B.prog B.w) A c (Gd B env φ1 σ1 h1 f ρ' σ₂) E s):wpAny (model B.prog B.w) A c (Gd B env φ σ h f ρ' σ₂) E s:=
  wpAny_mono q (fun _ _ q=>q.then G) fun _ _ q=>q
theorem BU:EE B n sc [] Ck:=
  fun A E env s φ σ ρ f ρ' σ' O R I F h=>strip h (wpAny_execs_nil ⟨φ,.refl,I,F,rfl⟩)
theorem An {st:Stmt}{m:Ex}(hm:Ec B n sc st m):EE B n sc [st] m:=by
  intro A E env s φ σ ρ f ρ' σ' O R I F h
  refine wpAny_execs_cons (hm.run O R I F h fun fl s1 φ1 G1 I1 F1 r=>?_)
  cases f with
  | next=>exact(show fl= .next from r)▸wpAny_execs_nil ⟨φ1,G1,I1,F1,rfl⟩
  | ret x=>exact r.elim fun v r=>r.1▸⟨φ1,G1,I1,F1,v,rfl,r.2⟩
theorem Ah {st:Stmt}{sts:List Stmt}{m1 m2:Ex}(h1:Ec B n sc st m1)(h2:EE B n sc sts m2):EE B n sc (st::sts) (AC m1 m2):=
  fun A E env s φ σ ρ f ρ' σ' O R I F h=>L9 h
    (fun ρ1 σ1 hm h=>wpAny_execs_cons (h1.run O R I F hm fun fl s1 φ1 G1 I1 F1 r=>(show fl= .next from r)▸IG G1 (h2 A E env s1 φ1 σ1 ρ1 f ρ' σ' O R I1 F1 h)))
    fun v hm e=>wpAny_execs_cons (h1.run O R I F hm fun fl s1 φ1 G1 I1 F1 r=>r.elim fun u r=>r.1▸e▸⟨φ1,G1,I1,F1,u,rfl,r.2⟩)
theorem AF {e:Expr}{m:Ev}{pos:Pos}(he:Av B n sc e m):Ec B n sc (.Return (some e) pos) (BH m):=
  fun A E env s φ σ ρ f ρ' σ' O R I F h=>AY h fun v σ1 hm h=>strip h (wpAny_Return_some (he.run O R I F hm fun u s1 φ1 G1 I1 r F1=>⟨φ1,G1.any,I1,F1,u,rfl,r⟩))
theorem M9 {st:Stmt}:Ec B n sc st Qb:=fun A E env s φ σ ρ f ρ' σ' O R I F h=>nomatch h
theorem Cq {e:Expr}{t:Tv}{b c:List Stmt}{m1 m2:Ex}{pos:Pos}(he:Eb B n sc e t)(h1:EE B n sc b m1)(h2:EE B n sc c m2):Ec B n sc (.If e b c pos) (xIf t m1 m2):=
  fun A E env s φ σ ρ f ρ' σ' O R I F h=>AY h fun q σ1 hm h=>wpAny_If (he.run O R I F hm fun s1 φ1 G1 I1 F1=>by
    cases q with
    | true=>exact IG G1.any (h1 A E env s1 φ1 σ1 ρ f ρ' σ' O R I1 F1 h)
    | false=>exact IG G1.any (h2 A E env s1 φ1 σ1 ρ f ρ' σ' O R I1 F1 h))
theorem AV {e:Expr}{m:Ev}{pos:Pos}(he:Av B n sc e m)(hs:∀env,swapsWith e none pos.line env=pure false:=by intro _; rfl):Ec B n sc (.Expr e pos) (Bl m):=by
  intro A E env s φ σ ρ f ρ' σ' O R I F h
  have hi:interactive env=false:=by unfold interactive; rw[O.scope,O.kind]; rfl
  refine AY h fun v σ1 hm h=>gif h fun hv h=>strip h (wpAny_Expr (he.run O R I F hm fun u s1 φ1 G1 I1 r F1=>?_) hi (hs env))
  have fin:Gd B env φ σ s.heap Flw.next ρ σ1 .next s1:=⟨φ1,G1.any,I1,F1,rfl⟩
  cases v with
  | none=>exact(show u= .none from r)▸fin
  | bool b=>exact(show u= .bool b from r)▸fin
  | int i=>exact r.elim fun t r=>r▸fin
  | _=>exact nomatch hv
theorem BG {x:String}{e:Expr}{m:Ev}{p pos:Pos}(he:Av B n sc e m)(hk:sc.names.lookup (Str.ofString x)=some .local∨sc.names.lookup (Str.ofString x)=some .cell)
    (hs:∀env,swapsWith e (some (.Name (Str.ofString x) p)) pos.line env=pure false:=by intro _; rfl):Ec B n sc (.Assign [.Name (Str.ofString x) p] e pos) (Bi (.name x) m):=
  fun A E env s φ σ ρ f ρ' σ' O R I F h=>AY h fun v σ1 hm h=>strip h (wpAny_Assign_Name (he.run O R I F hm fun u s1 φ1 G1 I1 r F1=>
    GA O I1 F1 r hk fun s2 G2 I2 F2 _=>⟨φ1,G1.any.trans G2,I2,F2,rfl⟩) (hs env))
end Mine
namespace Mine
open scoped Classical
open PySem PySem.W PySem.Calls PyProof.Rows
open Sem (wp)
variable {B:Base}{X:List Addr}{φ φ' φ1 φ2:Phi}{σ σ' σ1 σ₂:Hp}{h h' h₁ h₂:Heap}{s s' s1 s2:Shared}{n:Nat}{sc:Scope}{env:Env}{ρ ρ':Rho}{A:Around}{E:Value→Shared→Prop}
theorem BI {a:Addr}(hs:Heap.SameBut a h h'):∀b ob,b ∉ [a]→h.get? b=some ob→h'.get? b=some ob:=fun b _ hb e=>(hs.2 b (fun q=>hb (q▸List.mem_singleton_self _))).trans e
theorem FT (I:Inv B φ σ s){as:List Addr}{l:Nat}(hφ:φ[l]? =some as)(k:∀b ob,b∉as→s.heap.get? b=some ob→h'.get? b=some ob):∀b items,s.heap.IsTuple b items→h'.IsTuple b items:=
  fun b _ q=>q.elim fun o q=>⟨o,k b o (fun hb=>I.noTuple (BL hφ hb) ⟨o,q⟩) q.1,q.2⟩
theorem Jz {l:Nat}{xs ys:List SV}{a:Addr}{items:Array Value}(I:Inv B φ σ s)(hl:σ[l]? =some (.list xs))(hφ:φ[l]? =some [a])(hs:Heap.SameBut a s.heap h')(hi:h'.PlainList a items)
    (hv:Ak φ s.heap ys items.toList) (hz:ys.length≤lim) {t:Nat}:Gb B X φ σ s.heap (σ.set l (.list ys)) { s with heap:=h',toks:=t }:=
  have k:=BI hs
  ⟨φ,.upd hl hφ k (fun b hb=>List.mem_singleton.mp hb▸hi.elim fun o ho=>⟨_,ho⟩) .list,I.upd hl hφ k ⟨a,items,rfl,hi,hv.mono (fun _ _ e=>e) (FT I hφ k),hz⟩⟩
theorem PE {l:Addr}{items:Array Value}{k:Int}{t:Tok}{v:Value}{Q:Unit→Shared→Prop}(hl:s.heap.PlainList l items)
    (h0:0≤k) (hfit:k<2^63) (hn:k<items.size)
    (hQ:∀h',h'.PlainList l (items.setIfInBounds k.toNat v)→Heap.SameBut l s.heap h'→Q () { s with heap:=h' }):
    wpAny (model B.prog B.w) A (PySem.setItem (.ref l) (.int k t) v) Q E s:=by
  obtain⟨ne,ho⟩:=id hl
  have hli:=hl.isList
  unfold PySem.setItem
  try with_reducible refine wpAny_holding ?_
  first | refine wpAny_bind (wpAny_pure ?_) | skip
  refine wpAny_bind (wpAny_sequenceKey hli.typeIs (by decide) ?_)
  refine wpAny_bind (wpAny_callSpecial?_slot (name:=Str.ofString "__setitem__") hli.typeIs slot_list_setitem
    (wpAny_call_entry slot_list_setitem hli.typeIs entry_list_setitem ?_ (args_list_setitem _ _ _)))
  show wpAny _ _ (Builtin.List.listSubscript? (.int k t) >>= _) _ _ s
  refine wpAny_bind (wpAny_listSubscript_int (fitsIndex_of h0 hfit) ?_)
  clear hfit
  obtain⟨j,rfl⟩:=Int.eq_ofNat_of_zero_le h0
  have hj:j<items.size:=by omega
  have hx':items[j]? =some items[j]:=Array.getElem?_eq_getElem hj
  show wpAny _ _ ((seqItemAt l j >>= fun r=>pure (r.map (j,·))) >>= _) _ _ s
  refine wpAny_bind (wpAny_bind (wpAny_seqItemAt ho rfl (wpAny_pure ?_)))
  rw[hx']
  show wpAny _ _ (setSeqItemAt l j v >>= _) _ _ s
  have hfin:(s.heap.update l (Obj.mapSeq (·.setIfInBounds j v))).PlainList l (items.setIfInBounds j v):=
    ⟨_,Heap.get?_update_self (Obj.mapSeq (·.setIfInBounds j v)) ho rfl⟩
  refine wpAny_bind (wpAny_setSeqItemAt ho rfl ?_)
  first
    | exact wpAny_bind (wpAny_pure (wpAny_pure ⟨.none,rfl,wpAny_pure (hQ _ hfin (Heap.SameBut.update ..))⟩))
    | exact wpAny_pure ⟨.none,rfl,wpAny_pure (hQ _ hfin (Heap.SameBut.update ..))⟩
theorem JA {l:Nat}{kvs kvs':List (SV×SV)}{ver:Nat}{a:Addr}(I:Inv B φ σ s)(hl:σ[l]? =some (.dict kvs ver))(hφ:φ[l]? =some [a])(hs:Heap.SameBut a s.heap h')
    (hd:Hj B φ h' kvs' a) (hz:kvs'.length≤lim) {t:Nat}:Gb B X φ σ s.heap (σ.set l (.dict kvs' (ver+1))) { s with heap:=h',toks:=t }:=
  have k:=BI hs
  ⟨φ,.upd hl hφ k (fun b hb=>List.mem_singleton.mp hb▸(OQ hd).elim fun o q=>⟨o,q.1⟩) .dict,I.upd hl hφ k ⟨a,rfl,hd,hz⟩⟩
theorem dictPut_length (k v:SV)(kvs:List (SV×SV)):(AW kvs k v).length≤kvs.length+1:=by
  induction kvs with
  | nil=>exact Nat.le_refl _
  | cons p r ih=>
    show(if p.1=k then(p.1,v)::r else p::AW r k v).length≤_
    by_cases e:p.1=k
    · rw[if_pos e]; exact Nat.le_succ _
    · rw[if_neg e]; exact Nat.succ_le_succ ih
theorem VD {kvs:List (SV×SV)}{xs:List (Int×Value)}{i:Int}{y:SV}{v:Value}(q:All2 (fun p q=>p.1=SV.int q.1∧Al φ h p.2 q.2) kvs xs)(hn:(xs.map (·.1)).Nodup)(r:Al φ h y v):
    All2 (fun p q=>p.1=SV.int q.1∧Al φ h p.2 q.2) (AW kvs (.int i) y) (stored xs i v):=by
  induction q with
  | nil=>exact .cons ⟨rfl,r⟩ .nil
  | @cons p x kvs xs rr q ih=>
    obtain⟨k,z⟩:=p
    obtain⟨j,u⟩:=x
    simp only at rr
    obtain⟨rfl,rr⟩:=rr
    simp only[List.map_cons,List.nodup_cons] at hn
    unfold AW
    by_cases e:j=i
    · subst e
      rw[if_pos rfl]
      have hs:stored ((j,u)::xs) j v=(j,v)::xs:=by
        unfold stored
        simp only[List.any_cons,decide_true,Bool.true_or,if_true,List.map_cons]
        congr 1
        exact map_store_of_not_mem xs j v hn.1
      rw[hs]
      exact .cons ⟨rfl,r⟩ q
    · have e1:¬ (SV.int j=SV.int i):=fun z=>e (by cases z; rfl)
      rw[if_neg e1]
      have hs:stored ((j,u)::xs) i v=(j,u)::stored xs i v:=by
        unfold stored
        simp only[List.any_cons,decide_eq_false e,Bool.false_or,List.map_cons,if_neg e]
        split <;> simp
      rw[hs]
      exact .cons ⟨rfl,rr⟩ (ih hn.2)
theorem Ml {kvs:List (SV×SV)}{xs:List (SV×Addr×Value)}{k y:SV}{a:Addr}{v:Value}(q:All2 (fun p q=>p.1=q.1∧Al φ h p.2 q.2.2) kvs xs)(hn:(xs.map (·.1)).Nodup)(r:Al φ h y v):
    All2 (fun p q=>p.1=q.1∧Al φ h p.2 q.2.2) (AW kvs k y) (storedH xs k a v):=by
  induction q with
  | nil=>exact .cons ⟨rfl,r⟩ .nil
  | @cons p x kvs xs rr q ih=>
    obtain⟨j,z⟩:=p
    obtain⟨j',b,u⟩:=x
    simp only at rr
    obtain⟨rfl,rr⟩:=rr
    simp only[List.map_cons,List.nodup_cons] at hn
    unfold AW
    by_cases e:j=k
    · subst e
      rw[if_pos rfl]
      have hs:storedH ((j,b,u)::xs) j a v=(j,b,v)::xs:=by
        unfold storedH
        have:atKey ((j,b,u)::xs) j=some (b,u):=by simp[atKey]
        rw[this]
        simp only[Option.isSome_some,if_true,List.map_cons,putAt]
        congr 1
        exact map_putAt_of_not_mem xs j v hn.1
      rw[hs]
      exact .cons ⟨rfl,r⟩ q
    · rw[if_neg e]
      have hs:storedH ((j,b,u)::xs) k a v=(j,b,u)::storedH xs k a v:=by
        unfold storedH
        have:atKey ((j,b,u)::xs) k=atKey xs k:=by simp[atKey,e]
        rw[this]
        split
        · simp[putAt,e]
        · simp
      rw[hs]
      exact .cons ⟨rfl,rr⟩ (ih hn.2)
theorem Al.but {x:SV}{v:Value}(t:∀b items,h.IsTuple b items→h'.IsTuple b items)(r:Al φ h x v):Al φ h' x v:=r.mono (fun _ _ e=>e) t
theorem Qx {a:Addr}{xs:List (Int×Value)}(h1:h.DictOf (intKind B.prog B.w) a xs):(xs.map (·.1)).Nodup:=h1.elim fun _ q=>q.elim fun _ q=>q.elim fun _ q=>q.2.2.2.2.2
theorem Kl {a:Addr}{xs:List (SV×Addr×Value)}(h1:h.DictOfH (CG B.prog B.w) a xs):(xs.map (·.1)).Nodup:=h1.elim fun _ q=>q.elim fun _ q=>q.elim fun _ q=>q.2.2.2.2.2
theorem Tr {o i y:SV}{ov iv v:Value}(I:Inv B φ σ s)(hu:A.units+200<cLine)(ro:Al φ s.heap o ov)(ri:Al φ s.heap i iv)(rv:Al φ s.heap y v)(e:setItem o i y σ=some σ')
    {Q:Unit→Shared→Prop} (hq:∀s',Gb B [] φ σ s.heap σ' s'→Q () s'):wpAny (model B.prog B.w) A (PySem.setItem ov iv v) Q E s:=by
  cases o with
  | loc l=>
    replace e:(match σ[l]? with | some (.list xs)=>BP (DQ i) fun i=>if 0≤i∧i.toNat<xs.length then some (σ.set l (.list (xs.set i.toNat y))) else none | some (.dict kvs ver)=>BP (dictSet i y kvs) fun kvs'=>some (σ.set l (.dict kvs' (ver+1))) | _=>none)=some σ':=e
    cases hl:σ[l]? with
    | none=>rw[hl] at e; exact nomatch e
    | some ob=>
    rw[hl] at e
    cases ob with
    | list xs=>
      refine CH e fun k hk e=>gif e fun hb e=>?_
      obtain⟨a,items,ev,hφ,ht,q,hz⟩:=I.plain_at hl ro
      obtain⟨t,eu⟩:=(show Al φ s.heap (.int k) iv from Ep hk▸ri)
      have hsz:xs.length=items.size:=q.length
      have hz':xs.length≤100000:=hz
      rw[←Option.some.inj e] at hq
      rw[ev,eu]
      exact PE ht hb.1 (by omega) (by omega) fun h' hi hs=>hq _ (Jz I hl hφ hs hi (by rw[Array.toList_setIfInBounds]; exact q.set _ rv) (Nat.le_trans (Nat.le_of_eq List.length_set) hz) (t:=s.toks))
    | dict kvs ver=>
      refine CH e fun kvs' hd0 e=>gif hd0 fun hc hd1=>?_
      rw[←Option.some.inj e, ←Option.some.inj hd1] at hq
      have hc:=Bool.and_eq_true_iff.mp hc
      obtain⟨a,ev,hφ,D,hz⟩:=I.dict_at hl ro
      have hz2:(AW kvs i y).length≤lim:=Nat.le_trans (dictPut_length _ _ _) (of_decide_eq_true hc.2)
      rw[ev]
      refine(FB hc.1).elim (fun hk=>?_) fun hk=>?_
      · obtain⟨xs,hd,q⟩:=D.ints hk.2
        cases i with
        | int i=>
          obtain⟨t,eu⟩:=ri
          rw[eu]
          exact wpAny_setItem_pairs (intKind_is B.prog B.w i t) hd (fun h' hd2 hs=>hq _ (JA I hl hφ hs (.inl ⟨_,hd2,VD (q.mono fun _ _ z=>⟨z.1,z.2.but (FT I hφ (BI hs))⟩) (Qx hd) (rv.but (FT I hφ (BI hs)))⟩) hz2 (t:=s.toks+1)))
            (q.length▸Nat.le_trans hz Db)
        | _=>exact nomatch hk.1
      · obtain⟨xs,hd,q⟩:=D.tups hk.2
        obtain⟨b,eu,rk⟩:=E0 hk.1 ri
        have hr:(CG B.prog B.w).room A.in1:=Nat.lt_of_le_of_lt (Nat.le_trans (Nat.le_of_eq (Nat.add_assoc _ 1 64)) (Nat.add_le_add_left (by decide) _)) hu
        rw[eu]
        exact wpAny_setItem_heap hr ⟨hk.1,rk⟩ hd (fun h' hd2 hs=>hq _ (JA I hl hφ hs (.inr ⟨_,hd2,Ml (q.mono fun _ _ z=>⟨z.1,z.2.but (FT I hφ (BI hs))⟩) (Kl hd) (rv.but (FT I hφ (BI hs)))⟩) hz2 (t:=s.toks+(CG B.prog B.w).draws i)))
          (q.length▸Nat.le_trans hz Db)
    | inst _ _=>exact nomatch e
  | _=>exact nomatch e
theorem Dp {o i e:Expr}{mo mi me:Ev}{p pos:Pos}(ho:Av B n sc o mo)(hi:Av B n sc i mi)(he:Av B n sc e me)
    (hs:∀env,swapsWith e (some (.Subscript o i p)) pos.line env=pure false:=by intro _; rfl):Ec B n sc (.Assign [.Subscript o i p] e pos) (CM mo mi me):=
  fun A E env s φ σ ρ f ρ' σ' O R I F h=>AY h fun x σ1 h1 h=>AY h fun y σ₂ h2 h=>AY h fun z σ3 h3 h=>gmap h fun σ4 h4 h=>strip (congrArg some h)
    (wpAny_Assign_Subscript (he.run O R I F h1 fun v1 s1 φ1 G1 I1 r1 F1=>ho.run O R I1 F1 h2 fun v2 s2 φ2 G2 I2 r2 F2=>hi.run O R I2 F2 h3 fun v3 s3 φ3 G3 I3 r3 F3=>
      Tr I3 R.cmp (G3.vrep I2 Bc r2) r3 (G3.vrep I2 Bc (G2.vrep I1 Bc r1)) h4 fun s4 q=>q.elim fun φ4 q=>
        ⟨φ4,(((G1.trans G2).trans G3).trans q.1).any,q.2,F3.grow' I3 q.1,rfl⟩) (hs env))
theorem Ts {fs:List (String×SV)}{es:List DictEntry}{f:String}{y:SV}{v:Value}{hsh:Int}{t:Tok}(q:EY φ h fs es)(r:Al φ h y v):
    EY φ h (Rho.put fs f y) (putL (Str.ofString f) hsh (.str (Str.ofString f) t) v es):=by
  induction q with
  | nil=>exact .cons ⟨⟨t,rfl⟩,r⟩ .nil
  | @cons g e fs es rr q ih=>
    obtain⟨g,x⟩:=g
    obtain⟨⟨t',ht⟩,hv⟩:=rr
    unfold Rho.put putL
    by_cases e1:g=f
    · subst e1
      rw[if_pos rfl,if_pos (by rw[ht]; simp[Value.isStr])]
      exact .cons ⟨⟨t',ht⟩,r⟩ q
    · have e2:¬ (e.key.isStr (Str.ofString f)=true):=by
        rw[ht]
        simp only[Value.isStr,beq_iff_eq]
        exact fun z=>e1 (DF z)
      rw[if_neg e1,if_neg e2]
      exact .cons ⟨⟨t',ht⟩,hv⟩ ih
theorem RQ (name:Str)(hsh:Int)(key v:Value)(es:List DictEntry):(putL name hsh key v es).length≤es.length+1:=by
  induction es with
  | nil=>exact Nat.le_refl _
  | cons e r ih=>
    unfold putL
    by_cases q:e.key.isStr name=true
    · rw[if_pos q]; exact Nat.le_succ _
    · rw[if_neg q]; exact Nat.succ_le_succ ih
structure StoreOK (B:Base) (c f:String):Prop where
  setattr:findIn B.K (.ref (B.cls c)) "__setattr__" =some (some (.builtin "object.__setattr__"))
  plain:plainOver B.K (B.cls c)=true
  taker:takerIn B.K (B.cls c) (Str.ofString f)=some none
  has:hasDictIn B.K (B.cls c)=true
theorem Up {l:Nat}{c:String}{fs fs':List (String×SV)}{a dx:Addr}{es':List DictEntry}{k':Nat}{o:Obj}(I:Inv B φ σ s)(hl:σ[l]? =some (.inst c fs))(hφ:φ[l]? =some [a,dx])(h1:s.heap.get? a=some ⟨.ref (B.cls c),some dx,.plain, #[]⟩)(h2:s.heap.get? dx=some o)
    (hc:o.cls= .type "dict") (D':h'.get? dx=some (dictOf es' k')) (kk:∀b ob,b≠dx→s.heap.get? b=some ob→h'.get? b=some ob) (q:(∀b items,s.heap.IsTuple b items→h'.IsTuple b items)→EY φ h' fs' es') {t:Nat}:Gb B [] φ σ s.heap (σ.set l (.inst c fs')) { s with heap:=h',toks:=t }:=
  have hne:a≠dx:=fun e=>nomatch (congrArg Obj.cls (Option.some.inj (h1.symm.trans (e▸h2)))).trans hc
  have k2:∀b ob,b ∉ [a,dx]→s.heap.get? b=some ob→h'.get? b=some ob:=fun b ob hb e=>kk b ob (fun z=>hb (z▸List.mem_cons_of_mem _ (List.mem_singleton_self _))) e
  ⟨φ,.upd hl hφ k2 (fun b hb=>(List.mem_cons.mp hb).elim (fun e=>e▸⟨_,kk _ _ hne h1⟩) fun hb=>List.mem_singleton.mp hb▸⟨_,D'⟩) .inst,I.upd hl hφ k2 ⟨a,dx,es',k',rfl,kk a _ hne h1,D',q (FT I hφ k2)⟩⟩
theorem RS {c f:String}{o y:SV}{ov v:Value}(ok:StoreOK B c f)(I:Inv B φ σ s)(ro:Al φ s.heap o ov)(rv:Al φ s.heap y v)(e:setField c f o y σ=some σ')
    {Q:Unit→Shared→Prop} (hq:∀s',Gb B [] φ σ s.heap σ' s'→Q () s'):wpAny (model B.prog B.w) A (setAttr ov (Str.ofString f) v) Q E s:=by
  refine MM e fun l c' fs eo hl e=>gif e fun hc e=>?_
  obtain⟨a,dx,es,k,ev,hφ,h1,h2,q⟩:=I.inst_at hl (eo▸ro)
  have hel:es.length≤100:=q.length▸hc.2
  rw[hc.1] at h1 hl
  rw[←Option.some.inj e,hc.1] at hq
  rw[ev]
  refine set_plain I.inK (GQ h1 h2) ok.setattr ?_
  have I':Inv B φ σ { s with toks:=s.toks+1 }:=I.keep fun _ _ e=>e
  refine osa_open (s:={ s with toks:=s.toks+1 }) I'.inK (GQ h1 h2) ok.plain ok.taker fun b=>?_
  obtain⟨cd,hcd,hd'⟩:=any_some ok.has
  have D:({ s with toks:=s.toks+1 }:Shared).heap.get? dx=some (dictOf es k):=h2
  refine wpAny_bind (wpAny_pure (wpAny_bind (wpAny_bind (wpAny_loadPart (s:={ s with toks:=s.toks+1 }) h1 (wpAny_bind ((looks_clsIn I'.inK hcd).here ?_))))))
  rw[hd']
  refine wpAny_pure (a:=some dx) (wpAny_bind (wpAny_pure (wpAny_bind ?_)))
  unfold nsSet
  refine wpAny_bind (wpAny_bind (wpAny_askSetting (wpAny_pure (wpAny_bind (wpAny_mkText (wpAny_bind (wpAny_loadPart D ?_)))))))
  dsimp only
  have cc:(!es.toArray.any (·.key.isStr (Str.ofString f))&&es.toArray.any (·.refKey))=false:=by
    rw[←Array.any_toList, ←Array.any_toList,JU q,Bool.and_false]
  rw[aRefKeyMayBeTheName_at,cc]
  refine wpAny_updatePart D ?_
  have eo:=putName_dict (Str.ofString f) (PyData.keyHash B.w.params (Str.ofString f)) (.str (Str.ofString f) (s.toks+1)) v es k
  have D':=Heap.get?_update_self (h:=s.heap) (Obj.putName (Str.ofString f) (PyData.keyHash B.w.params (Str.ofString f)) (.str (Str.ofString f) (s.toks+1)) v) h2 (by rw[eo]; rfl)
  rw[eo] at D'
  refine wpAny_bind (wpAny_lookBehind D' (pastItsLine_dict (by rw[List.size_toArray,sizeLine_eq]; have:=RQ (Str.ofString f) (PyData.keyHash B.w.params (Str.ofString f)) (.str (Str.ofString f) (s.toks+1)) v es; omega)) (wpAny_pure (hq _ ?_)))
  exact Up I hl hφ h1 h2 rfl D' (fun b ob hb e=>(Heap.get?_update_other _ _ (fun z=>hb z.symm)).trans e) fun tk=>Ts (q.mono fun _ _ z=>⟨z.1,z.2.but tk⟩) (rv.but tk)
theorem AZ {c f:String}{o e:Expr}{mo me:Ev}{p pos:Pos}(ok:StoreOK B c f)(ho:Av B n sc o mo)(he:Av B n sc e me)
    (hs:∀env,swapsWith e (some (.Attribute o (Str.ofString f) p)) pos.line env=pure false:=by intro _; rfl):Ec B n sc (.Assign [.Attribute o (Str.ofString f) p] e pos) (BE c mo f me):=
  fun A E env s φ σ ρ fl ρ' σ' O R I F h=>AY h fun x σ1 h1 h=>AY h fun y σ₂ h2 h=>gmap h fun σ4 h4 h=>strip (congrArg some h)
    (plainObj_wpAny_Assign_Attribute (he.run O R I F h1 fun v1 s1 φ1 G1 I1 r1 F1=>ho.run O R I1 F1 h2 fun v2 s2 φ2 G2 I2 r2 F2=>
      RS ok I2 r2 (G2.vrep I1 Bc r1) h4 fun s4 q=>q.elim fun φ4 q=>⟨φ4,((G1.trans G2).trans q.1).any,q.2,F2.grow' I2 q.1,rfl⟩) (hs env))
end Mine
namespace Mine
open scoped Classical
open PySem PySem.W PySem.Calls PyProof.Rows
open Sem (wp)
variable {B:Base}{X:List Addr}{φ φ' φ1 φ2:Phi}{σ σ' σ1 σ₂:Hp}{h h' h1 h2:Heap}{s s' s1 s2:Shared}{n:Nat}{sc:Scope}{env:Env}{ρ ρ':Rho}{A:Around}{E:Value→Shared→Prop}
theorem JV {a b:Addr}{items:Array Value}(x:h.IsList a items)(hs:Heap.ExtBut b h h')(hab:a≠b):h'.IsList a items:=
  let ⟨o,ho,r⟩:=x; ⟨o,hs a o hab ho,r⟩
theorem Ft {a:Addr}{items:Array Value}(k:∀b o,h.get? b=some o→h'.get? b=some o)(x:h.IsList a items):h'.IsList a items:=
  let ⟨o,ho,r⟩:=x; ⟨o,k a o ho,r⟩
theorem Uq {prog:Program}{w:World}{it l:Addr}{items:Array Value}(hne:l≠it)(n:Nat):∀(i:Nat) (s:Shared) (Q:List Value→Shared→Prop),s.heap.IsListIter it l i→s.heap.IsList l items→i+n≤items.size→
    (∀h',h'.IsListIter it l (i+n)→Heap.SameBut it s.heap h'→Q ((items.toList.drop i).take n) { s with heap:=h' })→wpAny (model prog w) A (draw (.ref it) n) Q E s:=by
  induction n with
  | zero=>exact fun i s Q hit _ _ hQ=>show wpAny _ _ (pure []) Q E s from wpAny_pure (hQ s.heap hit (Heap.SameBut.refl ..))
  | succ n ih=>
    intro i s Q hit ht hle hQ
    have hlt:i<items.size:=Nat.lt_of_lt_of_le (Nat.lt_add_of_pos_right (Nat.succ_pos n)) hle
    show wpAny _ _ (pyNext (.ref it) >>= _) Q E s
    have e:i+(n+1)=i+1+n:=(Nat.add_right_comm i 1 n).symm
    refine wpAny_bind (wpAny_pyNext_list_item hit ht (x:=items[i]) (Array.getElem?_eq_getElem hlt) fun h1 hit1 hs1=>?_)
    refine wpAny_bind (wpAny_holding (ih (i+1) _ _ hit1 (JV ht hs1.extBut hne) (e▸hle) fun h2 hit2 hs2=>wpAny_pure ?_))
    have:=hQ h2 (e▸hit2) (hs1.trans hs2)
    rw[List.drop_eq_getElem_cons (show i<items.toList.length from hlt),List.take_succ_cons] at this
    exact this
theorem Mm {prog:Program}{w:World}{t:Addr}{items:Array Value}{Q:List Value→Shared→Prop}(hh:A.handled=none)(ht:s.heap.IsList t items)
    (hQ:∀h',Heap.ExtBut s.heap.objs.size s.heap h'→Q items.toList { s with heap:=h' }):wpAny (model prog w) A (unpackItems (.ref t) items.size none) Q E s:=by
  have hlt:t≠s.heap.objs.size:=by obtain⟨o,ho,_⟩:=ht; exact Nat.ne_of_lt (Heap.lt_size ho)
  unfold unpackItems
  refine wpAny_bind ?_
  · unfold notIterableAtAll
    refine wpAny_bind (wpAny_specialOf ht.typeIs PySem.F.slot_list_iter.lookup ?_)
    refine wpAny_pure ?_
    simp only[Bool.false_eq_true,if_false]
    refine wpAny_bind (wpAny_holding (wpAny_pyIter_list ht ?_))
    refine wpAny_bind (wpAny_holding (Uq hlt items.size 0 _ _ ⟨_,Heap.get?_push_size _ rfl,rfl,rfl⟩ (Ft (Ax _) ht) (by omega) fun h1 hit1 hs1=>?_))
    have hall:List.take items.size (List.drop 0 items.toList)=items.toList:=by
      rw[List.drop_zero]; exact List.take_of_length_le (by simp)
    rw[hall]
    rw[if_neg (by simp)]
    have ht1:h1.IsList t items:=JV (Ft (Ax _) ht) hs1.extBut hlt
    refine wpAny_bind (wpAny_holding (wpAny_pyNext_list_end hh hit1 ht1 (by simp) fun h2 he2=>?_))
    simp only[Option.isSome_none,Bool.false_eq_true,if_false]
    refine wpAny_pure (hQ h2 fun b o hb e=>he2 b o hb (hs1.extBut b o hb (Heap.get?_push_of_some _ e)))
theorem bindTgt_pair {x y:String}{v:SV}{ρ:Rho}{σ:Hp}:Ct (.pair x y) v ρ σ=(HL v σ).map fun p=>Rho.put (Rho.put ρ x p.1) y p.2:=rfl
theorem Mn {a b:SV}{vs:List Value}(q:Ak φ h [a,b] vs):∃u v,vs= [u,v]∧Al φ h a u∧Al φ h b v:=
  q.elim fun u q=>q.elim fun r q=>q.2.2.elim fun v p=>p.elim fun r' p=>⟨u,v,q.1.trans (congrArg _ (p.1.trans (congrArg _ (show r'= [] from p.2.2)))),q.2.1,p.2.1⟩
theorem Na (hh:A.handled=none)(I:Inv B φ σ s){v:SV}{p:SV×SV}{u:Value}(r:Al φ s.heap v u)(e:HL v σ=some p){Q:List Value→Shared→Prop}
    (hq:∀u1 u2 s',(∀b o,s.heap.get? b=some o→s'.heap.get? b=some o)→s'.gens=s.gens→s'.os=s.os→Al φ s'.heap p.1 u1→Al φ s'.heap p.2 u2→Q [u1,u2] s'):
    wpAny (model B.prog B.w) A (unpackItems u 2 none) Q E s:=by
  have ext:∀h',Heap.ExtBut s.heap.objs.size s.heap h'→∀b o,s.heap.get? b=some o→h'.get? b=some o:=fun h' hx b o e=>hx b o (Nat.ne_of_lt (Heap.lt_size e)) e
  have fin:∀{items:Array Value},Ak φ s.heap [p.1,p.2] items.toList→items.size=2∧∀h',Heap.ExtBut s.heap.objs.size s.heap h'→Q items.toList { s with heap:=h' }:=fun q=>by
    obtain⟨u1,u2,e,r1,r2⟩:=Mn q
    exact⟨congrArg List.length e,fun h' hx=>e▸hq u1 u2 _ (ext h' hx) rfl rfl (r1.keep (ext h' hx)) (r2.keep (ext h' hx))⟩
  cases v with
  | tup xs=>
    obtain⟨t,items,eu,ht,q⟩:=r
    have f:=fin (Kc e▸q)
    exact eu▸f.1▸wpAny_unpackItems_tuple hh ht f.2
  | loc l=>
    refine B7 (v:= .loc l) (F:=fun _ xs=>MR xs) e fun l' xs el hl e=>?_
    obtain⟨t,items,eu,_,ht,q,_⟩:=I.list_at hl (el▸r)
    have f:=fin (Kc e▸q)
    exact eu▸f.1▸Mm hh ht f.2
  | _=>exact nomatch e
abbrev EF (sc:Scope)(x:String):Prop:=sc.names.lookup (Str.ofString x)=some .local∨sc.names.lookup (Str.ofString x)=some .cell
theorem FrameOK.congr (F:FrameOK B env ρ φ h)(e:∀x,ρ'.lookup x=ρ.lookup x):FrameOK B env ρ' φ h:=by
  obtain⟨⟨m,hn,hv⟩,a,b,c,d,f⟩:=F
  exact⟨⟨m,hn,fun x v q=>hv x v (by rw[←e]; exact q)⟩,a,b,c,d,f⟩
noncomputable def EU (sc:Scope):Tgt→Expr→Prop
  | .name x,e=>∃p,e= .Name (Str.ofString x) p∧EF sc x
  | .pair x y,e=>∃p q k r,e= .Tuple [.Name (Str.ofString x) p,.Name (Str.ofString y) q] k r∧EF sc x∧EF sc y
noncomputable def Km (P:String→Prop):Tgt→Prop
  | .name x=>P x
  | .pair x y=>P x∧P y
theorem Nb {X:List Addr}{P:String→Prop}(st:∀{ρ:Rho} {x:String} {y:SV} {v:Value} {s:Shared} {Q:Unit→Shared→Prop},Inv B φ σ s→FrameOK B env ρ φ s.heap→Al φ s.heap y v→P x→
      (∀s',Grow X φ σ s.heap φ σ s'.heap→Inv B φ σ s'→FrameOK B env (ρ.put x y) φ s'.heap→(∀z u,Al φ s.heap z u→Al φ s'.heap z u)→Q () s')→wpAny (model B.prog B.w) A (storeName env (Str.ofString x) v) Q E s)
    {t:Tgt} {e:Expr} {v:SV} {u:Value} (hh:A.handled=none) (I:Inv B φ σ s) (F:FrameOK B env ρ φ s.heap) (ht:EU sc t e) (hl:Km P t) (r:Al φ s.heap v u) (hb:Ct t v ρ σ=some ρ')
    {Q:Unit→Shared→Prop} (hq:∀s',Grow X φ σ s.heap φ σ s'.heap→Inv B φ σ s'→FrameOK B env ρ' φ s'.heap→Q () s'):wpAny (model B.prog B.w) A (assign e env u) Q E s:=by
  cases t with
  | name x=>exact ht.elim fun p ht=>ht.1▸wpAny_assign_Name (st I F r hl fun s' G I' F' _=>hq s' G I' (Option.some.inj hb▸F'))
  | pair x y=>
    obtain⟨p,q,k,r',e,hx,hy⟩:=ht
    refine gmap hb fun ab hp hb=>?_
    rw[←hb] at hq
    rw[e,arm_assign_Tuple]
    refine wpAny_bind (wpAny_standAt ?_)
    show wpAny _ _ (holding [u] (unpackItems u 2 none) >>= fun items=>assignInOrder [assign (.Name (Str.ofString x) p) env,assign (.Name (Str.ofString y) q) env] items) _ _ s
    refine wpAny_bind (wpAny_holding (Na hh I r hp fun u1 u2 s1 k1 g o r1 r2=>?_))
    have I1:=I.keep k1 g o
    have G1:Grow [] φ σ s.heap φ σ s1.heap:= .keep k1
    exact wpAny_assignInOrder_more (wpAny_assign_Name (st I1 (F.grow' I G1) r1 hl.1 fun s2 G2 I2 F2 up=>wpAny_assignInOrder_more (wpAny_assign_Name (st I2 F2 (up _ _ r2) hl.2 fun s3 G3 I3 F3 _=>
      wpAny_assignInOrder_none (hq s3 ((G1.any.trans G2).trans G3) I3 F3)))))
theorem EU.all {t:Tgt}{e:Expr}(ht:EU sc t e):Km (EF sc) t:=by
  cases t with
  | name x=>exact ht.elim fun _ q=>q.2
  | pair x y=>exact ht.elim fun _ q=>q.elim fun _ q=>q.elim fun _ q=>q.elim fun _ q=>q.2
theorem OU {t:Tgt}{e:Expr}{v:SV}{u:Value}(O:EnvOK sc env)(hh:A.handled=none)(I:Inv B φ σ s)(F:FrameOK B env ρ φ s.heap)(ht:EU sc t e)(r:Al φ s.heap v u)(hb:Ct t v ρ σ=some ρ')
    {Q:Unit→Shared→Prop} (hq:∀s',Grow (Bx env) φ σ s.heap φ σ s'.heap→Inv B φ σ s'→FrameOK B env ρ' φ s'.heap→Q () s'):wpAny (model B.prog B.w) A (assign e env u) Q E s:=
  Nb (P:=EF sc) (fun I F r hk hq=>GA O I F r hk hq) hh I F ht ht.all r hb hq
theorem Fe {x y:String}{e:Expr}{m:Ev}{p q r pos:Pos}{k:Nat}(he:Av B n sc e m)(hx:EF sc x)(hy:EF sc y)
    (hs:∀env,swapsWithSole [.Tuple [.Name (Str.ofString x) p,.Name (Str.ofString y) q] k r] e pos.line env=pure false:=by intro _; rfl)
    (hw:∀env,env.scope=sc→swappedStores [.Tuple [.Name (Str.ofString x) p,.Name (Str.ofString y) q] k r] e env=pure none):
    Ec B n sc (.Assign [.Tuple [.Name (Str.ofString x) p,.Name (Str.ofString y) q] k r] e pos) (Bi (.pair x y) m):=by
  exact fun A E env s φ σ ρ f ρ' σ' O R I F h=>AY h fun v σ1 hm h=>gmap h fun ρ1 hb h=>strip (congrArg some h)
    (Assign_Tuple (he.run O R I F hm fun u s1 φ1 G1 I1 r1 F1=>OU (t:= .pair x y) O R.handled I1 F1 ⟨p,q,k,r,rfl,hx,hy⟩ r1 hb fun s2 G2 I2 F2=>⟨φ1,G1.any.trans G2,I2,F2,rfl⟩) (hs env) (hw env O.scope))
theorem Ho {x y:String}{e:Expr}{m:Ev}{p q r pos:Pos}{k:Nat}(he:Av B n sc e m)(hx:EF sc x)(hy:EF sc y)(hxy:x≠y)
    (hs:∀env,swapsWithSole [.Tuple [.Name (Str.ofString x) p,.Name (Str.ofString y) q] k r] e pos.line env=pure false:=by intro _; rfl)
    (hw:∀env,env.scope=sc→swappedStores [.Tuple [.Name (Str.ofString x) p,.Name (Str.ofString y) q] k r] e env=pure (some [Str.ofString x,Str.ofString y])):
    Ec B n sc (.Assign [.Tuple [.Name (Str.ofString x) p,.Name (Str.ofString y) q] k r] e pos) (Bi (.pair x y) m):=by
  intro A E env s φ σ ρ f ρ' σ' O R I F h
  refine AY h fun v σ1 hm h=>gmap h fun ρ1 hb h=>gmap hb fun ab hp hb=>strip (congrArg some h) (Assign_Tuple_swapped (names:= [Str.ofString x,Str.ofString y]) (he.run O R I F hm fun u s1 φ1 G1 I1 r1 F1=>?_) (hs env) (hw env O.scope))
  refine Na R.handled I1 r1 hp fun u1 u2 s2 k2 g o ra rb=>?_
  have I2:=I1.keep k2 g o
  have G2:Grow [] φ1 σ1 s1.heap φ1 σ1 s2.heap:= .keep k2
  refine wpAny_assignInOrder_more (wpAny_bindName (GA O I2 (F1.grow' I1 G2) rb hy fun s3 G3 I3 F3 up=>wpAny_assignInOrder_more (wpAny_bindName (GA O I3 F3 (up _ _ ra) hx fun s4 G4 I4 F4 _=>
    wpAny_assignInOrder_none ⟨φ1,(((G1.trans G2).any.trans G3).trans G4),I4,F4.congr fun z=>?_,rfl⟩))))
  rw[←hb,AK,AK,AK,AK]
  by_cases e1:z=y
  · rw[if_pos e1,if_neg (fun e=>hxy (e.symm.trans e1)),if_pos e1]
  · rw[if_neg e1,if_neg e1]
end Mine
namespace Mine
open scoped Classical
open PySem PySem.W PySem.Calls PyProof.Rows
open Sem (wp)
noncomputable def BM (h:Heap)(d:Addr)(es:Array DictEntry)(ep:Nat):Prop:=∃o,h.get? d=some o∧o.ExactDict∧o.data= .dict es ep
section
variable {prog:Program}{w:World}{A:Around}{E:Value→Shared→Prop}{s:Shared}{es:Array DictEntry}{d it:Addr}{i ep:Nat}
theorem BM.typeIs (x:BM s.heap d es ep):s.TypeIs (.ref d) "dict" :=let ⟨o,ho,hc,_⟩:=x; ⟨o,ho,hc.1⟩
theorem Qy {Q:Value→Shared→Prop}(hd:(d==sysModules)=false)(hm:BM s.heap d es ep)
    (hQ:Q (.ref s.heap.objs.size) { s with heap:=s.heap.push { cls:= .type "dict_keyiterator",data:= .fields #[.ref d,.int 0 0,.int es.size 0,.int ep 0] } }):
    wpAny (model prog w) A (pyIter (.ref d)) Q E s:=by
  have hT:=hm.typeIs
  obtain⟨o,ho,hc,hdat⟩:=hm
  refine wpAny_pyIter_slot hT PySem.F.slot_dict_iter (wpAny_call_entry PySem.F.slot_dict_iter hT PySem.F.entry_dict_iter ?_ (PySem.F.args_dict_iter_1 _))
  unfold Builtin.«dict.__iter__» Builtin.Dict.dictSlotNone
  refine wpAny_bind (wpAny_bind (wpAny_notOrdered_dict hT ?_))
  show wpAny _ _ (pure (Value.ref d)) _ _ s
  refine wpAny_pure ?_
  show wpAny _ _ (Builtin.Dict.showsAll d >>= _) _ _ s
  unfold Builtin.Dict.showsAll
  rw[if_neg (by rw[hd]; exact Bool.false_ne_true)]
  refine wpAny_bind (wpAny_pure (wpAny_bind (wpAny_dictEntries ho hdat (wpAny_bind (wpAny_dictEpoch ho hdat ?_)))))
  first
    | exact wpAny_bind (wpAny_newObj_type (wpAny_pure ⟨_,rfl, "dict_keyiterator",_,⟨_,Heap.get?_push_size _ rfl,rfl⟩,PySem.F.slot_dict_keyiterator_next.lookup,hQ⟩))
    | exact wpAny_newObj_type (wpAny_pure ⟨_,rfl, "dict_keyiterator",_,⟨_,Heap.get?_push_size _ rfl,rfl⟩,PySem.F.slot_dict_keyiterator_next.lookup,hQ⟩)
theorem Qz {Q:Option Value→Shared→Prop}(hit:s.heap.IsKeyIter it d i es.size ep)(hm:BM s.heap d es ep)(hlt:i<es.size)
    (hQ:∀h',h'.IsKeyIter it d (i+1) es.size ep→Heap.SameBut it s.heap h'→Q (some es[i].key) { s with heap:=h' }):wpAny (model prog w) A (pyNext (.ref it)) Q E s:=by
  obtain⟨o,ho,hc,hd⟩:=id hit
  obtain⟨od,hod,hcd,hdd⟩:=hm
  unfold pyNext
  refine wpAny_bind (wpAny_attempt (wpAny_callSpecial?_slot (name:=Str.ofString "__next__") hit.typeIs PySem.F.slot_dict_keyiterator_next
    (wpAny_call_entry PySem.F.slot_dict_keyiterator_next hit.typeIs PySem.F.entry_dict_keyiterator_next ?_ (PySem.F.args_dict_keyiterator_next_1 _))))
  refine wpAny_bind (wpAny_pure (wpAny_bind (wpAny_bind ?_)))
  first | refine wpAny_bind (wpAny_typeNameOfWhole_keyiter hit.typeIs (wpAny_pure ?_)) | refine wpAny_bind (wpAny_typeNameOf_keyiter hit.typeIs (wpAny_pure ?_))
  refine wpAny_bind (wpAny_fieldsOf ho hd ?_)
  have hown:Builtin.Dict_items.ownsTuple "dict_keyiterator" =false:=by decide
  simp only[hown,Bool.false_eq_true,if_false]
  show wpAny _ _ (if(Value.ref d==Value.none)=true then _ else _) _ _ s
  rw[if_neg (show ¬ ((Value.ref d==Value.none)=true) from Bool.false_ne_true)]
  refine wpAny_bind (wpAny_pure (wpAny_bind (wpAny_dictEntries hod hdd ?_)))
  rw[if_neg (by simp)]
  refine wpAny_bind (wpAny_pure (wpAny_bind (wpAny_dictEpoch hod hdd ?_)))
  rw[if_neg (by simp)]
  refine wpAny_pure ?_
  simp only[show ¬ ((i:Int)<0) from by omega,if_false,Int.toNat_natCast,Array.getElem?_eq_getElem hlt]
  refine wpAny_bind ?_
  first | refine wpAny_bind (wpAny_typeNameOfWhole_keyiter hit.typeIs (wpAny_pure ?_)) | refine wpAny_bind (wpAny_typeNameOf_keyiter hit.typeIs (wpAny_pure ?_))
  refine wpAny_bind (wpAny_isOneOf_keyiter hit.typeIs ?_)
  show wpAny _ _ (PySem.setField (.ref it) 1 (rawInt ((i:Int)+1)) >>= _) _ _ s
  refine wpAny_bind (wpAny_setField ho hd (by simp) ?_)
  have hit':(s.heap.update it (Obj.mapFields (·.setIfInBounds 1 (rawInt ((i:Int)+1))))).IsKeyIter it d (i+1) es.size ep:=
    ⟨_,Heap.get?_update_self _ ho (Obj.isFreed_of_fields (Obj.data_mapFields hd _)),(Obj.cls_mapFields ..).trans hc,by rw[Obj.data_mapFields hd]; simp[rawInt]⟩
  refine wpAny_bind (wpAny_holding (wpAny_bind (wpAny_isOneOf_keyiter (s:={ s with heap:=s.heap.update it (Obj.mapFields (·.setIfInBounds 1 (rawInt ((i:Int)+1)))) }) hit'.typeIs ?_)))
  show wpAny _ _ (pure es[i].key) _ _ _
  exact wpAny_pure (wpAny_pure ⟨_,rfl,wpAny_pure (hQ _ hit' (Heap.SameBut.update ..))⟩)
theorem Sp {Q:Option Value→Shared→Prop}(hh:A.handled=none)(hit:s.heap.IsKeyIter it d i es.size ep)(hm:BM s.heap d es ep)(hge:es.size≤i)
    (hQ:∀h',Heap.ExtBut it s.heap h'→Q none { s with heap:=h' }):wpAny (model prog w) A (pyNext (.ref it)) Q E s:=by
  obtain⟨o,ho,hc,hd⟩:=id hit
  obtain⟨od,hod,hcd,hdd⟩:=hm
  unfold pyNext
  refine wpAny_bind (wpAny_attempt (wpAny_callSpecial?_slot (name:=Str.ofString "__next__") hit.typeIs PySem.F.slot_dict_keyiterator_next
    (wpAny_call_entry PySem.F.slot_dict_keyiterator_next hit.typeIs PySem.F.entry_dict_keyiterator_next ?_ (PySem.F.args_dict_keyiterator_next_1 _))))
  refine wpAny_bind (wpAny_pure (wpAny_bind (wpAny_bind ?_)))
  first | refine wpAny_bind (wpAny_typeNameOfWhole_keyiter hit.typeIs (wpAny_pure ?_)) | refine wpAny_bind (wpAny_typeNameOf_keyiter hit.typeIs (wpAny_pure ?_))
  refine wpAny_bind (wpAny_fieldsOf ho hd ?_)
  have hown:Builtin.Dict_items.ownsTuple "dict_keyiterator" =false:=by decide
  simp only[hown,Bool.false_eq_true,if_false]
  show wpAny _ _ (if(Value.ref d==Value.none)=true then _ else _) _ _ s
  rw[if_neg (show ¬ ((Value.ref d==Value.none)=true) from Bool.false_ne_true)]
  refine wpAny_bind (wpAny_pure (wpAny_bind (wpAny_dictEntries hod hdd ?_)))
  rw[if_neg (by simp)]
  refine wpAny_bind (wpAny_pure (wpAny_bind (wpAny_dictEpoch hod hdd ?_)))
  rw[if_neg (by simp)]
  refine wpAny_pure ?_
  simp only[show ¬ ((i:Int)<0) from by omega,if_false,Int.toNat_natCast,Array.getElem?_eq_none hge]
  refine wpAny_bind ?_
  first | refine wpAny_bind (wpAny_typeNameOfWhole_keyiter hit.typeIs (wpAny_pure ?_)) | refine wpAny_bind (wpAny_typeNameOf_keyiter hit.typeIs (wpAny_pure ?_))
  show wpAny _ _ (PySem.setField (.ref it) 0 .none >>= _) _ _ s
  refine wpAny_bind (wpAny_setField ho hd (by simp) ?_)
  show wpAny _ _ (newExc (.type "StopIteration") [] >>= _) _ _ _
  refine wpAny_bind ?_
  simp only[newExc,newTuple]
  refine wpAny_bind (wpAny_newObj_type ?_ (by size_fits))
  refine wpAny_bind (m:=firstArgMember _ _) (wpAny_of_eq (a:=Value.none) (by first | rfl | (simp only[firstArgMember]; rfl)) ?_)
  refine wpAny_newObj_type ?_ (by size_fits)
  simp only[raiseNew]
  refine wpAny_bind (wpAny_handled ?_)
  rw[show A.in1.handled=none from hh]
  refine wpAny_bind (wpAny_pure (wpAny_throw ?_))
  refine wpAny_bind (wpAny_isInstance (T:= "StopIteration") (b:=true) ⟨_,Heap.get?_push_size _ rfl,rfl⟩ isSubtype_stop ?_)
  exact wpAny_pure (hQ _ (((Heap.SameBut.update ..).extBut.push _).push _))
theorem Ur {Q:Value→Shared→Prop}(hd:(d==sysModules)=false)(hm:BM s.heap d es ep)
    (hQ:Q (.ref s.heap.objs.size) { s with heap:=s.heap.push { cls:= .type "dict_items",data:= .fields #[.ref d] } }):
    wpAny (model prog w) A (call (.builtin "dict.items") [.ref d]) Q E s:=by
  have hT:=hm.typeIs
  refine wpAny_call_entry PySem.F.slot_dict_items hT PySem.F.entry_dict_items ?_ (PySem.F.args_dict_items_1 _)
  unfold Builtin.«dict.items» Builtin.Dict.noArgs
  refine wpAny_bind (wpAny_bind (wpAny_notOrdered_dict hT ?_))
  show wpAny _ _ (pure d) _ _ s
  refine wpAny_pure ?_
  show wpAny _ _ (Builtin.Dict.showsAll d >>= _) _ _ s
  unfold Builtin.Dict.showsAll
  rw[if_neg (by rw[hd]; exact Bool.false_ne_true)]
  exact wpAny_bind (wpAny_pure (wpAny_bind (wpAny_newObj_type (wpAny_pure ⟨_,rfl,hQ⟩))))
theorem PF {v:Addr}{Q:Value→Shared→Prop}(hv:s.heap.IsItemsView v d)(hm:BM s.heap d es ep)
    (hQ:Q (.ref s.heap.objs.size) { s with heap:=s.heap.push { cls:= .type "dict_itemiterator",data:= .fields #[.none,.bool false,.ref d,.int 0 0,.int es.size 0,.int ep 0,.none,.none] } }):
    wpAny (model prog w) A (pyIter (.ref v)) Q E s:=by
  obtain⟨ov,hov,hcv,hdv⟩:=id hv
  obtain⟨o,ho,hc,hdat⟩:=hm
  refine wpAny_pyIter_slot hv.typeIs PySem.F.slot_dict_items_iter (wpAny_call_entry PySem.F.slot_dict_items_iter hv.typeIs PySem.F.entry_dict_items_iter ?_ (PySem.F.args_dict_items_iter_1 _))
  unfold Builtin.«dict_items.__iter__»
  refine wpAny_bind (wpAny_pure (wpAny_bind ?_))
  unfold Builtin.Dict_items.dictOf
  refine wpAny_bind (wpAny_field hov hdv (x:= .ref d) rfl (wpAny_pure (wpAny_bind ?_)))
  unfold Builtin.Dict_items.newIterator
  refine wpAny_bind (wpAny_dictEntries ho hdat (wpAny_bind (wpAny_dictEpoch ho hdat ?_)))
  have hown:Builtin.Dict_items.ownsTuple "dict_itemiterator" =true:=by decide
  simp only[hown,if_true]
  refine wpAny_newObj_type (wpAny_pure ⟨_,rfl, "dict_itemiterator",_,⟨_,Heap.get?_push_size _ rfl,rfl⟩,PySem.F.slot_dict_itemiterator_next.lookup,?_⟩)
    (by simp only[sizeOk,Builtin.Dict_items.ownedTupleFields,List.size_toArray,List.length_append,List.length_cons,List.length_nil,sizeLine_eq]; omega)
  simpa [rawInt,Builtin.Dict_items.ownedTupleFields] using hQ
theorem PG {ok ov:Value}{Q:Option Value→Shared→Prop}(hit:IsItemIter s.heap it d i es.size ep ok ov)(hm:BM s.heap d es ep)(hlt:i<es.size)
    (hQ:∀h',IsItemIterOut h' it d (i+1) es.size ep es[i].key es[i].val s.heap.objs.size→h'.get? s.heap.objs.size=some { cls:= .type "tuple",data:= .seq #[es[i].key,es[i].val] }→
      (∀b o,b≠it→s.heap.get? b=some o→h'.get? b=some o)→Q (some (.ref s.heap.objs.size)) { s with heap:=h' }):
    wpAny (model prog w) A (pyNext (.ref it)) Q E s:=by
  obtain⟨hp,g,dr,tk,os⟩:=s
  obtain⟨od,hod,hcd,hdd⟩:=hm
  have hT:Shared.TypeIs ⟨hp,g,dr,tk,os⟩ (.ref it) "dict_itemiterator" :=⟨_,hit,rfl⟩
  unfold pyNext
  refine wpAny_bind (wpAny_attempt (wpAny_callSpecial?_slot (name:=Str.ofString "__next__") hT PySem.F.slot_dict_itemiterator_next
    (wpAny_call_entry PySem.F.slot_dict_itemiterator_next hT PySem.F.entry_dict_itemiterator_next ?_ (PySem.F.args_dict_itemiterator_next_1 _))))
  refine wpAny_bind (wpAny_pure (wpAny_bind (wpAny_bind ?_)))
  first | refine wpAny_bind (wpAny_typeNameOfWhole_itemiter hT (wpAny_pure ?_)) | refine wpAny_bind (wpAny_typeNameOf_itemiter hT (wpAny_pure ?_))
  refine wpAny_bind (wpAny_fieldsOf hit rfl ?_)
  have hown:Builtin.Dict_items.ownsTuple "dict_itemiterator" =true:=by decide
  simp only[hown,if_true]
  show wpAny _ _ (if(Value.ref d==Value.none)=true then _ else _) _ _ _
  rw[if_neg (show ¬ ((Value.ref d==Value.none)=true) from Bool.false_ne_true)]
  refine wpAny_bind (wpAny_pure (wpAny_bind (wpAny_dictEntries hod hdd ?_)))
  rw[if_neg (by simp)]
  refine wpAny_bind (wpAny_pure (wpAny_bind (wpAny_dictEpoch hod hdd ?_)))
  rw[if_neg (by simp)]
  refine wpAny_pure ?_
  simp only[show ¬ ((i:Int)<0) from by omega,if_false,Int.toNat_natCast,Array.getElem?_eq_getElem hlt]
  refine wpAny_bind ?_
  first | refine wpAny_bind (wpAny_typeNameOfWhole_itemiter hT (wpAny_pure ?_)) | refine wpAny_bind (wpAny_typeNameOf_itemiter hT (wpAny_pure ?_))
  refine wpAny_bind (wpAny_isOneOf_itemiter hT ?_)
  show wpAny _ _ (PySem.setField (.ref it) 3 (rawInt ((i:Int)+1)) >>= _) _ _ ⟨hp,g,dr,tk,os⟩
  refine wpAny_bind (wpAny_setField_rec hit (by simp) fun h1 he1 hs1=>?_)
  replace hs1:Heap.SameBut it hp h1:=hs1
  replace he1:IsItemIter h1 it d (i+1) es.size ep ok ov:=by
    have e:((i+1:Nat):Int)=(i:Int)+1:=by omega
    unfold IsItemIter; rw[e]; simpa [rawInt] using he1
  have hT1:Shared.TypeIs ⟨h1,g,dr,tk,os⟩ (.ref it) "dict_itemiterator" :=⟨_,he1,rfl⟩
  refine wpAny_bind (wpAny_holding (wpAny_bind (wpAny_isOneOf_itemiter hT1 (wpAny_bind (wpAny_isOneOf_itemiter hT1 ?_)))))
  show wpAny _ _ (Builtin.Dict_items.pairFromOwner (.ref it) 6 es[i].key es[i].val) _ _ ⟨h1,g,dr,tk,os⟩
  unfold Builtin.Dict_items.pairFromOwner
  refine wpAny_bind (wpAny_newTuple ?_)
  have he2:IsItemIter (h1.push { cls:= .type "tuple",data:= .seq #[es[i].key,es[i].val] }) it d (i+1) es.size ep ok ov:=Heap.get?_push_of_some _ he1
  generalize hh2:h1.push { cls:= .type "tuple",data:= .seq #[es[i].key,es[i].val] }=h2 at he2
  have hz1:h1.objs.size=hp.objs.size:=hs1.1
  have hil:it<hp.objs.size:=Heap.lt_size hit
  have ht2:h2.get? hp.objs.size=some { cls:= .type "tuple",data:= .seq #[es[i].key,es[i].val] }:=by rw[←hh2, ←hz1]; exact Heap.get?_push_size _ rfl
  have hk2:∀b o,b≠it→hp.get? b=some o→h2.get? b=some o:=fun b o hb e=>by rw[←hh2]; exact Heap.get?_push_of_some _ (hs1.extBut b o hb e)
  show wpAny _ _ (Builtin.Dict_items.ownedTupleIsFree (.ref it) >>= _) _ _ ⟨h2,g,dr,tk,os⟩
  rw[hz1]
  clear hh2 he1 hs1 hT1 hz1 h1
  refine wpAny_bind ?_
  unfold Builtin.Dict_items.ownedTupleIsFree
  refine wpAny_bind (wpAny_field he2 rfl (x:= .none) rfl (wpAny_pure ?_))
  simp only[if_true]
  refine wpAny_bind (wpAny_field he2 rfl (x:=ok) rfl (wpAny_bind (wpAny_field he2 rfl (x:=ov) rfl ?_)))
  refine wpAny_bind (wpAny_setField_rec he2 (by simp) fun h3 he3 hs3=>?_)
  replace hs3:Heap.SameBut it h2 h3:=hs3
  replace he3:IsItemIter h3 it d (i+1) es.size ep es[i].key ov:=he3
  refine wpAny_bind (wpAny_setField_rec he3 (by simp) fun h4 he4 hs4=>?_)
  replace hs4:Heap.SameBut it h3 h4:=hs4
  replace he4:IsItemIter h4 it d (i+1) es.size ep es[i].key es[i].val:=he4
  refine wpAny_bind (wpAny_setField_rec he4 (by simp) fun h5 he5 hs5=>?_)
  replace hs5:Heap.SameBut it h4 h5:=hs5
  replace he5:IsItemIterOut h5 it d (i+1) es.size ep es[i].key es[i].val hp.objs.size:=he5
  refine wpAny_bind (wpAny_setField_rec he5 (by simp) fun h6 he6 hs6=>?_)
  replace hs6:Heap.SameBut it h5 h6:=hs6
  replace he6:IsItemIterOut h6 it d (i+1) es.size ep es[i].key es[i].val hp.objs.size:=he6
  have all:∀b o,b≠it→h2.get? b=some o→h6.get? b=some o:=fun b o hb e=>hs6.extBut b o hb (hs5.extBut b o hb (hs4.extBut b o hb (hs3.extBut b o hb e)))
  exact wpAny_bind (wpAny_letGo (wpAny_pure (wpAny_pure ⟨_,rfl,wpAny_pure (hQ h6 he6 (all _ _ (Nat.ne_of_gt hil) ht2) fun b o hb e=>all b o hb (hk2 b o hb e))⟩)))
theorem QA {ok ov:Value}{Q:Option Value→Shared→Prop}(hh:A.handled=none)(hit:IsItemIter s.heap it d i es.size ep ok ov)(hm:BM s.heap d es ep)(hge:es.size≤i)
    (hQ:∀h',Heap.ExtBut it s.heap h'→Q none { s with heap:=h' }):wpAny (model prog w) A (pyNext (.ref it)) Q E s:=by
  obtain⟨od,hod,hcd,hdd⟩:=hm
  have hT:s.TypeIs (.ref it) "dict_itemiterator" :=⟨_,hit,rfl⟩
  unfold pyNext
  refine wpAny_bind (wpAny_attempt (wpAny_callSpecial?_slot (name:=Str.ofString "__next__") hT PySem.F.slot_dict_itemiterator_next
    (wpAny_call_entry PySem.F.slot_dict_itemiterator_next hT PySem.F.entry_dict_itemiterator_next ?_ (PySem.F.args_dict_itemiterator_next_1 _))))
  refine wpAny_bind (wpAny_pure (wpAny_bind (wpAny_bind ?_)))
  first | refine wpAny_bind (wpAny_typeNameOfWhole_itemiter hT (wpAny_pure ?_)) | refine wpAny_bind (wpAny_typeNameOf_itemiter hT (wpAny_pure ?_))
  refine wpAny_bind (wpAny_fieldsOf hit rfl ?_)
  have hown:Builtin.Dict_items.ownsTuple "dict_itemiterator" =true:=by decide
  simp only[hown,if_true]
  show wpAny _ _ (if(Value.ref d==Value.none)=true then _ else _) _ _ s
  rw[if_neg (show ¬ ((Value.ref d==Value.none)=true) from Bool.false_ne_true)]
  refine wpAny_bind (wpAny_pure (wpAny_bind (wpAny_dictEntries hod hdd ?_)))
  rw[if_neg (by simp)]
  refine wpAny_bind (wpAny_pure (wpAny_bind (wpAny_dictEpoch hod hdd ?_)))
  rw[if_neg (by simp)]
  refine wpAny_pure ?_
  simp only[show ¬ ((i:Int)<0) from by omega,if_false,Int.toNat_natCast,Array.getElem?_eq_none hge]
  refine wpAny_bind ?_
  first | refine wpAny_bind (wpAny_typeNameOfWhole_itemiter hT (wpAny_pure ?_)) | refine wpAny_bind (wpAny_typeNameOf_itemiter hT (wpAny_pure ?_))
  show wpAny _ _ (PySem.setField (.ref it) 2 .none >>= _) _ _ s
  refine wpAny_bind (wpAny_setField hit rfl (by simp) ?_)
  show wpAny _ _ (newExc (.type "StopIteration") [] >>= _) _ _ _
  refine wpAny_bind ?_
  simp only[newExc,newTuple]
  refine wpAny_bind (wpAny_newObj_type ?_ (by size_fits))
  refine wpAny_bind (m:=firstArgMember _ _) (wpAny_of_eq (a:=Value.none) (by first | rfl | (simp only[firstArgMember]; rfl)) ?_)
  refine wpAny_newObj_type ?_ (by size_fits)
  simp only[raiseNew]
  refine wpAny_bind (wpAny_handled ?_)
  rw[show A.in1.handled=none from hh]
  refine wpAny_bind (wpAny_pure (wpAny_throw ?_))
  refine wpAny_bind (wpAny_isInstance (T:= "StopIteration") (b:=true) ⟨_,Heap.get?_push_size _ rfl,rfl⟩ isSubtype_stop ?_)
  exact wpAny_pure (hQ _ (((Heap.SameBut.update ..).extBut.push _).push _))
end
end Mine
namespace Mine
open scoped Classical
open PySem PySem.W PySem.Calls PyProof.Rows
open Sem (wp)
variable {B:Base}{X Y:List Addr}{φ φ' φ1 φ2:Phi}{σ σ' σ1 σ₂:Hp}{h h' h₁ h₂:Heap}{s s' s1 s2:Shared}{n:Nat}{sc:Scope}{env:Env}{ρ ρ':Rho}{A:Around}{E:Value→Shared→Prop}
inductive ItS where
  | list (l:Nat) (xs:List SV)
  | tup (xs:List SV)
  | range (n:Nat)
  | enum (l:Nat) (xs:List SV)
  | keys (l:Nat) (kvs:List (SV×SV)) (ver:Nat)
  | items (l:Nat) (kvs:List (SV×SV)) (ver:Nat)
  | str (x:String)
noncomputable def ItS.all:ItS→List SV
  | .list _ xs=>xs
  | .tup xs=>xs
  | .range n=>(List.range n).map fun(i:Nat)=>SV.int (i:Int)
  | .enum _ xs=>xs.zipIdx.map fun p=>SV.tup [.int (p.2:Int),p.1]
  | .keys _ kvs _=>kvs.map (·.1)
  | .items _ kvs _=>kvs.map fun p=>SV.tup [p.1,p.2]
  | .str x=>x.toList.map fun c=> .str (String.singleton c)
noncomputable def ItS.chk:ItS→Option (Nat×SObj)
  | .list l xs=>some (l,.list xs)
  | .enum l xs=>some (l,.list xs)
  | .keys l kvs ver=>some (l,.dict kvs ver)
  | .items l kvs ver=>some (l,.dict kvs ver)
  | _=>none
noncomputable def DL (φ:Phi)(h:Heap)(k:Nat)(it:Value)(Y:List Addr):ItS→Prop
  | .list l _=>∃I a,it= .ref I∧Y= [I]∧Cd φ l=some a∧h.IsListIter I a k
  | .tup xs=>∃I t items,it= .ref I∧Y= [I]∧h.IsTupleIter I t k∧h.IsTuple t items∧Ak φ h xs items.toList
  | .range n=>∃I,it= .ref I∧Y= [I]∧IsRangeIter h I (k:Int) ((n:Int)-k) 1
  | .enum l _=>∃e I a old,it= .ref e∧Y= [e,I]∧e≠I∧Cd φ l=some a∧IsEnum h e I (k:Int) old∧h.IsListIter I a k
  | .keys l kvs _=>∃I a es ep,it= .ref I∧Y= [I]∧Cd φ l=some a∧h.IsKeyIter I a k es.size ep∧BM h a es ep∧Ak φ h (kvs.map (·.1)) (es.toList.map (·.key))
  | .items l kvs _=>∃I a es ep ok ov,it= .ref I∧Y= [I]∧Cd φ l=some a∧IsItemIter h I a k es.size ep ok ov∧BM h a es ep∧
      Ak φ h (kvs.map (·.1)) (es.toList.map (·.key))∧Ak φ h (kvs.map (·.2)) (es.toList.map (·.val))
  | .str x=>∃I t,it= .ref I∧Y= [I]∧h.IsStrIter I "str_ascii_iterator" (Str.ofString x) t k
theorem JB {l:Nat}{a:Addr}(e:Cd φ l=some a):∃as,φ[l]? =some as∧a∈as:=by
  unfold Cd at e
  cases q:φ[l]? with
  | none=>rw[q] at e; simp at e
  | some as=>
    rw[q] at e
    simp only[Option.bind_some] at e
    cases as with
    | nil=>simp at e
    | cons b r=>simp only[List.head?_cons,Option.some.injEq] at e; subst e; exact⟨_,rfl,List.mem_cons_self⟩
theorem DL.stay {st:ItS}{k:Nat}{it:Value}(I:Inv B φ σ s)(G:Grow X φ σ s.heap φ' σ' h')(N:Dr X s.heap)(hx:∀a,a∈X→a∉own φ)(hy:∀a,a∈Y→a∉X∧a∉own φ)
    (c:Cj st.chk σ=true) (c':Cj st.chk σ'=true) (q:DL φ s.heap k it Y st):DL φ' h' k it Y st:=by
  have keepY:∀a,a∈Y→∀o,s.heap.get? a=some o→h'.get? a=some o:=fun a ha o e=>G.kept a o e (hy a ha).1 fun l as hl hm=>((hy a ha).2 (BL hl hm)).elim
  have keepD:∀l kvs ver,st.chk=some (l,.dict kvs ver)→∀a,Cd φ l=some a→∀o,s.heap.get? a=some o→h'.get? a=some o:=by
    intro l kvs ver hc a ha o e
    rw[hc] at c c'
    simp only[Cj,decide_eq_true_eq] at c c'
    obtain⟨as,hl,hm⟩:=JB ha
    refine G.kept a o e (fun z=>hx a z (BL hl hm)) fun l' as' hl' hm'=>?_
    have:l'=l:=M1 I.nodup hl' hl hm' hm
    subst this
    exact⟨kvs,kvs,ver,c,c'⟩
  cases st with
  | list l xs=>
    obtain⟨J,a,rfl,rfl,h1,o,ho,r⟩:=q
    exact⟨J,a,rfl,rfl,G.addr h1,o,keepY J (by simp) o ho,r⟩
  | tup xs=>
    obtain⟨J,t,items,rfl,rfl,⟨o,ho,r⟩,h2,h3⟩:=q
    exact⟨J,t,items,rfl,rfl,⟨o,keepY J (by simp) o ho,r⟩,G.tup I N h2,G.vreps I N h3⟩
  | range n=>
    obtain⟨J,rfl,rfl,h1⟩:=q
    exact⟨J,rfl,rfl,keepY J (by simp) _ h1⟩
  | enum l xs=>
    obtain⟨e,J,a,old,rfl,rfl,h1,h2,h3,o,ho,r⟩:=q
    exact⟨e,J,a,old,rfl,rfl,h1,G.addr h2,keepY e (by simp) _ h3,o,keepY J (by simp) o ho,r⟩
  | keys l kvs ver=>
    obtain⟨J,a,es,ep,rfl,rfl,h1,⟨o,ho,r⟩,⟨o2,ho2,r2⟩,h4⟩:=q
    exact⟨J,a,es,ep,rfl,rfl,G.addr h1,⟨o,keepY J (by simp) o ho,r⟩,⟨o2,keepD l kvs ver rfl a h1 o2 ho2,r2⟩,G.vreps I N h4⟩
  | items l kvs ver=>
    obtain⟨J,a,es,ep,ok,ov,rfl,rfl,h1,h2,⟨o2,ho2,r2⟩,h4,h5⟩:=q
    exact⟨J,a,es,ep,ok,ov,rfl,rfl,G.addr h1,keepY J (by simp) _ h2,⟨o2,keepD l kvs ver rfl a h1 o2 ho2,r2⟩,G.vreps I N h4,G.vreps I N h5⟩
  | str x=>
    obtain⟨J,t,rfl,rfl,o,ho,r⟩:=q
    exact⟨J,t,rfl,rfl,o,keepY J (by simp) o ho,r⟩
theorem GB (I:Inv B φ σ s)(hy:∀a,a∈Y→a∉own φ∧B.S.heap.get? a=none)(N:Dr Y s.heap)(k:∀b o,b∉Y→s.heap.get? b=some o→h'.get? b=some o)
    (ka:∀a,a∈Y→∃o,h'.get? a=some o) {t:Nat}:Grow Y φ σ s.heap φ σ h'∧Inv B φ σ { s with heap:=h',toks:=t }:=by
  have tk:∀b items,s.heap.IsTuple b items→h'.IsTuple b items:=fun b items q=>by
    obtain⟨o,ho,r⟩:=q
    exact⟨o,k b o (fun e=>N b e items ⟨o,ho,r⟩) ho,r⟩
  refine⟨⟨⟨[],by simp,fun _ q=>by simp[own] at q⟩,fun b o e hx _=>k b o hx e,fun l kv n e=>⟨kv,n,e,Nat.le_refl _⟩,fun b o e=>?_⟩,
    ⟨fun b o e=>k b o (fun q=>by rw[(hy b q).2] at e; cases e) (I.base b o e),I.gens,I.os,I.len,I.nodup,I.above,I.mods,fun i o as e1 e2=>?_⟩⟩
  · by_cases q:b∈Y
    · exact ka b q
    · exact⟨o,k b o q e⟩
  · exact(I.objs i o as e1 e2).mono (fun _ _ q=>q) tk fun b hb ob e=>k b ob (fun q=>(hy b q).1 (BL e2 hb)) e
noncomputable def HE:ItS→Tgt→Prop
  | .enum ..,t=>∃x y,t= .pair x y
  | .items ..,t=>∃x y,t= .pair x y
  | _,_=>True
noncomputable def QB:List String:= ["enumerate", "zip", "dict_itemiterator", "dict_reverseitemiterator", "odict_iterator", "itertools.zip_longest", "itertools.pairwise"]
theorem Hd {sc:Scope}{t:Tgt}{e:Expr}{J:Addr}{v:Value}{o:Obj}{c:String}{vs:Array Value}{Q:Unit→Shared→Prop}(ht:EU sc t e)(ho:s.heap.get? J=some o)(hc:o.cls= .type c)(hd:o.data= .fields vs)
    (hn:QB.contains c=false) (hq:Q () s):wpAny (model B.prog B.w) A (letOwnedTupleGo e (.ref J) v) Q E s:=by
  cases t with
  | name x=>obtain⟨p,rfl,_⟩:=ht; exact wpAny_pure hq
  | pair x y=>
    obtain⟨p,q,k,r,rfl,_⟩:=ht
    cases v with
    | ref b=>
      unfold letOwnedTupleGo
      refine wpAny_bind (wpAny_load ho ?_)
      rw[hc,hd]
      show wpAny _ A (if(QB.contains c&&vs[0]? == some (rawInt b))=true then _ else _) Q E s
      rw[if_neg (by rw[hn,Bool.false_and]; simp)]
      exact wpAny_pure hq
    | _=>exact wpAny_pure hq
theorem Dc {a:Addr}{o:Obj}{vs:Array Value}(ho:h.get? a=some o)(hd:o.data= .fields vs)(items:Array Value):¬ h.IsTuple a items:=by
  intro hrin; obtain⟨o',ho',_,k,hd'⟩:=hrin
  rw[ho] at ho'; cases ho'
  rw[hd] at hd'; cases hd'
theorem DL.noTups {st:ItS}{k:Nat}{it:Value}(q:DL φ h k it Y st):Dr Y h:=by
  intro b hb items
  cases st with
  | list l xs=>obtain⟨J,a,rfl,rfl,h1,o,ho,_,hd⟩:=q; rw[List.mem_singleton.mp hb]; exact Dc ho hd items
  | tup xs=>obtain⟨J,t,its,rfl,rfl,⟨o,ho,_,hd⟩,_⟩:=q; rw[List.mem_singleton.mp hb]; exact Dc ho hd items
  | range n=>obtain⟨J,rfl,rfl,h1⟩:=q; rw[List.mem_singleton.mp hb]; exact Dc h1 rfl items
  | enum l xs=>
    obtain⟨e,J,a,old,rfl,rfl,h1,h2,h3,o,ho,_,hd⟩:=q
    simp only[List.mem_cons,List.not_mem_nil,or_false] at hb
    rcases hb with rfl | rfl
    · exact Dc h3 rfl items
    · exact Dc ho hd items
  | keys l kvs ver=>obtain⟨J,a,es,ep,rfl,rfl,h1,⟨o,ho,_,hd⟩,_⟩:=q; rw[List.mem_singleton.mp hb]; exact Dc ho hd items
  | items l kvs ver=>obtain⟨J,a,es,ep,ok,ov,rfl,rfl,h1,h2,_⟩:=q; rw[List.mem_singleton.mp hb]; exact Dc h2 rfl items
  | str x=>obtain⟨J,t,rfl,rfl,o,ho,_,hd⟩:=q; rw[List.mem_singleton.mp hb]; exact Dc ho hd items
theorem OV {st:ItS}{k:Nat}{it:Value}{t:Tgt}{e:Expr}{x:SV}(I:Inv B φ σ s)(q:DL φ s.heap k it Y st)(c:Cj st.chk σ=true)(hy:∀a,a∈Y→a∉own φ∧B.S.heap.get? a=none)
    (ht:EU sc t e) (hf:HE st t) (hx:st.all[k]? =some x) {Q:Option Value→Shared→Prop}
    (hq:∀v s1,wpAny (model B.prog B.w) A (letOwnedTupleGo e it v) (fun _ s2=>Grow Y φ σ s.heap φ σ s2.heap∧Inv B φ σ s2∧Al φ s2.heap x v∧DL φ s2.heap (k+1) it Y st) E s1→Q (some v) s1):
    wpAny (model B.prog B.w) A (pyNext it) Q E s:=by
  have nt:=q.noTups
  cases st with
  | list l xs=>
    obtain⟨J,a,rfl,rfl,h1,h2⟩:=q
    simp only[ItS.chk,Cj,decide_eq_true_eq] at c
    obtain⟨b,items,e1,hφ,hl,hr,hz⟩:=I.list_at c (v:= .ref a) (by simp only[Al]; exact⟨a,h1,rfl⟩)
    cases e1
    obtain⟨w,hw,rw'⟩:=hr.get hx
    refine wpAny_pyNext_list_item h2 hl (by simpa using hw) fun h' hit hs=>hq _ _ (Hd (c:= "list_iterator") ht hit.choose_spec.1 hit.choose_spec.2.1 hit.choose_spec.2.2 (by decide) ?_)
    have kk:=BI hs
    obtain⟨G,I'⟩:=GB I hy nt kk (fun b hb=>by rw[List.mem_singleton.mp hb]; obtain⟨o,ho,_⟩:=hit; exact⟨o,ho⟩) (t:=s.toks)
    exact⟨G,I',G.vrep I nt rw',J,a,rfl,rfl,h1,hit⟩
  | tup xs=>
    obtain⟨J,tt,items,rfl,rfl,h2,h3,h4⟩:=q
    obtain⟨w,hw,rw'⟩:=h4.get hx
    refine wpAny_pyNext_tuple_item h2 h3 (by simpa using hw) fun h' hit hs=>hq _ _ (Hd (c:= "tuple_iterator") ht hit.choose_spec.1 hit.choose_spec.2.1 hit.choose_spec.2.2 (by decide) ?_)
    have kk:=BI hs
    obtain⟨G,I'⟩:=GB I hy nt kk (fun b hb=>by rw[List.mem_singleton.mp hb]; obtain⟨o,ho,_⟩:=hit; exact⟨o,ho⟩) (t:=s.toks)
    exact⟨G,I',G.vrep I nt rw',J,tt,items,rfl,rfl,hit,G.tup I nt h3,G.vreps I nt h4⟩
  | range m=>
    obtain⟨J,rfl,rfl,h2⟩:=q
    have hk:k<m∧x= .int (k:Int):=by
      simp only[ItS.all,List.getElem?_map,Option.map_eq_some_iff,List.getElem?_eq_some_iff,List.length_range,List.getElem_range] at hx
      obtain⟨b,⟨hb,rfl⟩,rfl⟩:=hx
      exact⟨hb,rfl⟩
    obtain⟨hk,rfl⟩:=hk
    refine wpAny_pyNext_range_item h2 (by omega) fun h' hit hs=>hq _ _ (Hd (c:= "range_iterator") ht hit rfl rfl (by decide) ?_)
    have kk:=BI hs
    obtain⟨G,I'⟩:=GB I hy nt kk (fun b hb=>by rw[List.mem_singleton.mp hb]; exact⟨_,hit⟩) (t:=s.toks+1)
    refine⟨G,I',by simp[Al],J,rfl,rfl,?_⟩
    have e1:((k+1:Nat):Int)=(k:Int)+1:=by omega
    have e2:(m:Int)-((k+1:Nat):Int)=(m:Int)-k-1:=by omega
    rw[e2,e1]; exact hit
  | enum l xs=>
    obtain⟨ee,J,a,old,rfl,rfl,hne,h1,h2,h3⟩:=q
    simp only[ItS.chk,Cj,decide_eq_true_eq] at c
    obtain⟨b,items,e1,hφ,hl,hr,hz⟩:=I.list_at c (v:= .ref a) (by simp only[Al]; exact⟨a,h1,rfl⟩)
    cases e1
    obtain⟨y1,y2,rfl⟩:=hf
    obtain⟨p,q',kk',r',rfl,_⟩:=ht
    simp only[ItS.all,List.getElem?_map,Option.map_eq_some_iff,List.getElem?_zipIdx] at hx
    obtain⟨z,⟨z',hz',rfl⟩,rfl⟩:=hx
    obtain⟨w,hw,rw'⟩:=hr.get hz'
    refine wpAny_pyNext_enum_item h2 h3 hl (by simpa using hw) hne fun h' ho hit htup hsz hk=>hq _ _ ?_
    refine wpAny_letOwnedTupleGo_enum ho fun h'' he hs=>?_
    have kk:∀b o,b ∉ [ee,J]→s.heap.get? b=some o→h''.get? b=some o:=fun b o hb e=>(hs.2 b (fun z=>hb (by simp[z]))).trans (hk b o (fun z=>hb (by simp[z])) (fun z=>hb (by simp[z])) e)
    have hit':h''.IsListIter J a (k+1):=by
      obtain⟨o,ho',r⟩:=hit
      exact⟨o,(hs.2 J (Ne.symm hne)).trans ho',r⟩
    obtain⟨G,I'⟩:=GB I hy nt kk (fun b hb=>by
      simp only[List.mem_cons,List.not_mem_nil,or_false] at hb
      rcases hb with rfl | rfl
      · exact⟨_,he⟩
      · obtain⟨o,ho',_⟩:=hit'; exact⟨o,ho'⟩) (t:=s.toks+1)
    have hee:ee≠s.heap.objs.size:=Nat.ne_of_lt (Heap.lt_size h2)
    have htup':h''.get? s.heap.objs.size=some { cls:= .type "tuple",data:= .seq #[.int k s.toks,w] }:=(hs.2 _ (Ne.symm hee)).trans htup
    refine⟨G,I',?_,ee,J,a,w,rfl,rfl,hne,h1,?_,hit'⟩
    · simp only[Al]
      refine⟨_, #[.int k s.toks,w],rfl,⟨_,htup',rfl,_,rfl⟩,?_⟩
      refine Ak.cons'.mpr ⟨?_,Ak.cons'.mpr ⟨G.vrep I nt rw',Ak.nil'.mpr rfl⟩⟩
      simp[Al]
    · have e1:((k+1:Nat):Int)=(k:Int)+1:=by omega
      rw[e1]; exact he
  | keys l kvs ver=>
    obtain⟨J,a,es,ep,rfl,rfl,h1,h2,h3,h4⟩:=q
    obtain⟨w,hw,rw'⟩:=h4.get hx
    simp only[List.getElem?_map,Option.map_eq_some_iff] at hw
    obtain⟨en,hen,rfl⟩:=hw
    have hlt:k<es.size:=by
      have:=(List.getElem?_eq_some_iff.mp hen).1
      simpa using this
    have hek:es[k]=en:=by
      rw[Array.getElem?_toList] at hen
      simpa [hlt] using hen
    subst hek
    refine Qz h2 h3 hlt fun h' hit hs=>hq _ _ (Hd (c:= "dict_keyiterator") ht hit.choose_spec.1 hit.choose_spec.2.1 hit.choose_spec.2.2 (by decide) ?_)
    have kk:=BI hs
    obtain⟨G,I'⟩:=GB I hy nt kk (fun b hb=>by rw[List.mem_singleton.mp hb]; obtain⟨o,ho,_⟩:=hit; exact⟨o,ho⟩) (t:=s.toks)
    have hJa:a≠J:=by
      intro e
      obtain⟨as,hl,hm⟩:=JB h1
      exact(hy J (by simp)).1 (e▸BL hl hm)
    obtain⟨o3,ho3,r3⟩:=h3
    exact⟨G,I',G.vrep I nt rw',J,a,es,ep,rfl,rfl,h1,hit,⟨o3,(hs.2 a hJa).trans ho3,r3⟩,G.vreps I nt h4⟩
  | items l kvs ver=>
    obtain⟨J,a,es,ep,ok,ov,rfl,rfl,h1,h2,h3,h4,h5⟩:=q
    obtain⟨y1,y2,rfl⟩:=hf
    obtain⟨p,q',kk',r',rfl,_⟩:=ht
    simp only[ItS.all,List.getElem?_map,Option.map_eq_some_iff] at hx
    obtain⟨pr,hpr,rfl⟩:=hx
    obtain⟨w1,hw1,rw1⟩:=h4.get (i:=k) (x:=pr.1) (by simp[hpr])
    obtain⟨w2,hw2,rw2⟩:=h5.get (i:=k) (x:=pr.2) (by simp[hpr])
    simp only[List.getElem?_map,Option.map_eq_some_iff] at hw1 hw2
    obtain⟨en,hen,rfl⟩:=hw1
    obtain⟨en2,hen2,rfl⟩:=hw2
    rw[hen] at hen2; cases hen2
    have hlt:k<es.size:=by
      have:=(List.getElem?_eq_some_iff.mp hen).1
      simpa using this
    have hek:es[k]=en:=by
      rw[Array.getElem?_toList] at hen
      simpa [hlt] using hen
    subst hek
    refine PG h2 h3 hlt fun h' ho htup hk=>hq _ _ ?_
    refine wpAny_letOwnedTupleGo_items ho fun h'' he hs=>?_
    have kk:∀b o,b ∉ [J]→s.heap.get? b=some o→h''.get? b=some o:=fun b o hb e=>(hs.2 b (fun z=>hb (by simp[z]))).trans (hk b o (fun z=>hb (by simp[z])) e)
    obtain⟨G,I'⟩:=GB I hy nt kk (fun b hb=>by rw[List.mem_singleton.mp hb]; exact⟨_,he⟩) (t:=s.toks)
    have hJ:J≠s.heap.objs.size:=Nat.ne_of_lt (Heap.lt_size h2)
    have hJa:a≠J:=by
      intro e
      obtain⟨as,hl,hm⟩:=JB h1
      exact(hy J (by simp)).1 (e▸BL hl hm)
    have htup':h''.get? s.heap.objs.size=some { cls:= .type "tuple",data:= .seq #[es[k].key,es[k].val] }:=(hs.2 _ (Ne.symm hJ)).trans htup
    obtain⟨o3,ho3,r3⟩:=h3
    refine⟨G,I',?_,J,a,es,ep,_,_,rfl,rfl,h1,he,⟨o3,kk a o3 (by simpa using hJa) ho3,r3⟩,G.vreps I nt h4,G.vreps I nt h5⟩
    simp only[Al]
    exact⟨_, #[es[k].key,es[k].val],rfl,⟨_,htup',rfl,_,rfl⟩,Ak.cons'.mpr ⟨G.vrep I nt rw1,Ak.cons'.mpr ⟨G.vrep I nt rw2,Ak.nil'.mpr rfl⟩⟩⟩
  | str z=>
    obtain⟨J,tt,rfl,rfl,h2⟩:=q
    simp only[ItS.all,List.getElem?_map,Option.map_eq_some_iff] at hx
    obtain⟨ch,hch,rfl⟩:=hx
    refine wpAny_pyNext_ascii_item h2 (c:=ch.toNat) (by rw[Str.ofString_eq_toList]; simp[hch]) fun h' hit hs=>hq _ _ (Hd (c:= "str_ascii_iterator") ht hit.choose_spec.1 hit.choose_spec.2.1 hit.choose_spec.2.2 (by decide) ?_)
    have kk:=BI hs
    obtain⟨G,I'⟩:=GB I hy nt kk (fun b hb=>by rw[List.mem_singleton.mp hb]; obtain⟨o,ho,_⟩:=hit; exact⟨o,ho⟩) (t:=s.toks+1)
    refine⟨G,I',?_,J,tt,rfl,rfl,hit⟩
    simp only[Al,Gf]
    exact⟨_,rfl⟩
theorem Ak.none {xs:List SV}{vs:List Value}(r:Ak φ h xs vs){k:Nat}(hx:xs[k]? =none):vs[k]? =none:=by
  have e:=Ak.length r
  rw[List.getElem?_eq_none_iff] at hx ⊢
  omega
theorem Lb (I:Inv B φ σ s)(hy:∀a,a∈Y→a∉own φ∧B.S.heap.get? a=none)(N:Dr Y s.heap)(k:∀b o,b∉Y→s.heap.get? b=some o→h'.get? b=some o){t:Nat}:Inv B φ σ { s with heap:=h',toks:=t }:=by
  have tk:∀b items,s.heap.IsTuple b items→h'.IsTuple b items:=fun b items q=>by
    obtain⟨o,ho,r⟩:=q
    exact⟨o,k b o (fun e=>N b e items ⟨o,ho,r⟩) ho,r⟩
  refine⟨fun b o e=>k b o (fun q=>by rw[(hy b q).2] at e; cases e) (I.base b o e),I.gens,I.os,I.len,I.nodup,I.above,I.mods,fun i o as e1 e2=>?_⟩
  exact(I.objs i o as e1 e2).mono (fun _ _ q=>q) tk fun b hb ob e=>k b ob (fun q=>(hy b q).1 (BL e2 hb)) e
theorem Grow.after {φ0:Phi}{σ0:Hp}{h0:Heap}(G:Grow Y φ0 σ0 h0 φ σ h)(k:∀b o,b∉Y→h.get? b=some o→h'.get? b=some o)(hy:∀a,a∈Y→h0.get? a=none):Grow Y φ0 σ0 h0 φ σ h':=by
  refine⟨G.ext,fun a o e hx hl=>k a o hx (G.kept a o e hx hl),G.vers,fun a o e=>?_⟩
  obtain⟨o',e'⟩:=G.alive a o e
  exact⟨o',k a o' (fun q=>by rw[hy a q] at e; cases e) e'⟩
theorem OW {st:ItS}{k:Nat}{it:Value}(hh:A.handled=none)(I:Inv B φ σ s)(q:DL φ s.heap k it Y st)(c:Cj st.chk σ=true)(hy:∀a,a∈Y→a∉own φ∧B.S.heap.get? a=none)
    (hx:st.all[k]? =none) {Q:Option Value→Shared→Prop}
    (hq:∀h',(∀b o,b∉Y→s.heap.get? b=some o→h'.get? b=some o)→Inv B φ σ { s with heap:=h' }→Q none { s with heap:=h' }):wpAny (model B.prog B.w) A (pyNext it) Q E s:=by
  have nt:=q.noTups
  have fin:∀(J:Addr) (h':Heap),J∈Y→Heap.ExtBut J s.heap h'→Q none { s with heap:=h' }:=fun J h' hJ hs=>
    have kk:∀b o,b∉Y→s.heap.get? b=some o→h'.get? b=some o:=fun b o hb e=>hs b o (fun z=>hb (z▸hJ)) e
    hq h' kk (Lb I hy nt kk (t:=s.toks))
  cases st with
  | list l xs=>
    obtain⟨J,a,rfl,rfl,h1,h2⟩:=q
    simp only[ItS.chk,Cj,decide_eq_true_eq] at c
    obtain⟨b,items,e1,hφ,hl,hr,hz⟩:=I.list_at c (v:= .ref a) (by simp only[Al]; exact⟨a,h1,rfl⟩)
    cases e1
    exact wpAny_pyNext_list_end hh h2 hl (by simpa using Ak.none hr hx) fun h' hs=>fin J h' (by simp) hs
  | tup xs=>
    obtain⟨J,tt,items,rfl,rfl,h2,h3,h4⟩:=q
    exact wpAny_pyNext_tuple_end hh h2 h3 (by simpa using Ak.none h4 hx) fun h' hs=>fin J h' (by simp) hs
  | range m=>
    obtain⟨J,rfl,rfl,h2⟩:=q
    have hk:m≤k:=by
      simp only[ItS.all,List.getElem?_eq_none_iff,List.length_map,List.length_range] at hx
      exact hx
    exact wpAny_pyNext_range_end hh h2 (by omega) fun h' hs=>fin J h' (by simp) hs
  | enum l xs=>
    obtain⟨ee,J,a,old,rfl,rfl,hne,h1,h2,h3⟩:=q
    simp only[ItS.chk,Cj,decide_eq_true_eq] at c
    obtain⟨b,items,e1,hφ,hl,hr,hz⟩:=I.list_at c (v:= .ref a) (by simp only[Al]; exact⟨a,h1,rfl⟩)
    cases e1
    have hx':xs[k]? =none:=by
      simp only[ItS.all,List.getElem?_eq_none_iff,List.length_map,List.length_zipIdx] at hx ⊢
      exact hx
    exact wpAny_pyNext_enum_end hh h2 h3 hl (by simpa using Ak.none hr hx') fun h' hs=>fin J h' (by simp) hs
  | keys l kvs ver=>
    obtain⟨J,a,es,ep,rfl,rfl,h1,h2,h3,h4⟩:=q
    have hk:=Ak.none h4 hx
    refine Sp hh h2 h3 (by simpa [List.getElem?_eq_none_iff] using hk) fun h' hs=>fin J h' (by simp) hs
  | items l kvs ver=>
    obtain⟨J,a,es,ep,ok,ov,rfl,rfl,h1,h2,h3,h4,h5⟩:=q
    have hx':(kvs.map (·.1))[k]? =none:=by
      simp only[ItS.all,List.getElem?_eq_none_iff,List.length_map] at hx ⊢
      exact hx
    have hk:=Ak.none h4 hx'
    refine QA hh h2 h3 (by simpa [List.getElem?_eq_none_iff] using hk) fun h' hs=>fin J h' (by simp) hs
  | str z=>
    obtain⟨J,tt,rfl,rfl,h2⟩:=q
    have hx':z.toList[k]? =none:=by
      simp only[ItS.all,List.getElem?_eq_none_iff,List.length_map] at hx ⊢
      exact hx
    exact wpAny_pyNext_ascii_end hh h2 (by rw[Str.ofString_eq_toList]; simpa [List.getElem?_eq_none_iff] using hx') fun h' hs=>fin J h' (by simp) hs
end Mine
namespace Mine
open scoped Classical
open PySem PySem.W PySem.Calls PyProof.Rows
open Sem (wp)
variable {B:Base}{X Y:List Addr}{φ φ' φ1 φ2:Phi}{σ σ' σ1 σ₂:Hp}{h h' h₁ h₂:Heap}{s s' s1 s2:Shared}{n:Nat}{sc:Scope}{env:Env}{ρ ρ':Rho}{A:Around}{E:Value→Shared→Prop}
structure BuiltinOK (B:Base) (sc:Scope) (x:String) (v:Value):Prop where
  kind:sc.names.lookup (Str.ofString x)=some .globalImplicit
  miss:nsIn B.K mainGlobals (Str.ofString x)=some none
  boot:bootBuiltins (Str.ofString x)=some v
  noname:Str.ofString x≠ "__name__"
  nodebug:(Str.ofString x==("__debug__" :Str))=false
noncomputable def Tt (f:Value):Prop:=(∃T,f= .type T)∨∃id,f= .builtin id
theorem IH {pos:Pos}{f:Value}{first:List Value}{args:List (Bool×Sem Value)}{Q:Value→Shared→Prop}(hf:Tt f)(hplain:args.any (·.1)=false)
    (h:wpAny (model B.prog B.w) A (evalArgs f true args []) (fun a s1=>wpAny (model B.prog B.w) A (call f (first++a.pos) a.kw) Q E s1) E s):
    wpAny (model B.prog B.w) A (callWith pos f first args []) Q E s:=by
  rcases hf with⟨T,rfl⟩ | ⟨id,rfl⟩
  · exact PySem.callWith_type hplain h
  · exact callWith_builtin hplain h
theorem OX {f:Value}{first:List Value}{es:List Expr}{ms:List Ev}{pos:Pos}{Q:Value→Shared→Prop}{xs:List SV}(hf:Tt f)(hes:DU B n sc es ms)
    (O:EnvOK sc env) (R:By A n) (I:Inv B φ σ s) (F:FrameOK B env ρ φ s.heap) (h:evs ms ρ σ=some (xs,σ1))
    (hst:∀env pos,(backTo pos (starEach es env)).any (·.1)=false)
    (hq:∀vs s1,IW B [] φ σ s.heap xs σ1 vs s1→wpAny (model B.prog B.w) A (call f (first++vs)) Q E s1):
    wpAny (model B.prog B.w) A (callWith pos f first (backTo pos (starEach es env)) []) Q E s:=by
  exact IH hf (hst env pos) (HP (hst env pos) (wpAny_mono (hes A E env s φ σ ρ xs σ1 O R I F h pos) (fun vs s1 q=>hq vs s1 q) fun _ _ e=>e))
theorem Ld {x:String}{f:Value}{es:List Expr}{ms:List Ev}{np pos:Pos}{Q:Value→Shared→Prop}{xs:List SV}(ok:BuiltinOK B sc x f)(hf:Tt f)(hes:DU B n sc es ms)
    (O:EnvOK sc env) (R:By A n) (I:Inv B φ σ s) (F:FrameOK B env ρ φ s.heap) (h:evs ms ρ σ=some (xs,σ1))
    (hst:∀env pos,(backTo pos (starEach es env)).any (·.1)=false)
    (hq:∀vs s1,IW B [] φ σ s.heap xs σ1 vs s1→wpAny (model B.prog B.w) A (call f vs) Q E s1):
    wpAny (model B.prog B.w) A (eval (.Call (.Name (Str.ofString x) np) es [] pos) env) Q E s:=
  wpAny_Call_NameR (HO O I ok.kind ok.miss ok.boot ok.noname (OX (first:= []) hf hes O R I F h hst hq) ok.nodebug)
theorem Hw {T id name:String}{o:Expr}{m:Ev}{es:List Expr}{ms:List Ev}{apos pos:Pos}{Q:Value→Shared→Prop}{x:SV}{xs:List SV}
    (pa:PlainAttrs T) (slot:Slot T (Str.ofString name) id) (hty:typeOf (.builtin id)=pure (.type "method_descriptor")) (ho:Av B n sc o m) (hes:DU B n sc es ms)
    (O:EnvOK sc env) (R:By A n) (I:Inv B φ σ s) (F:FrameOK B env ρ φ s.heap) (hm:m ρ σ=some (x,σ1)) (h:evs ms ρ σ1=some (xs,σ₂))
    (hT:∀φ1 s1 v,Inv B φ1 σ1 s1→Al φ1 s1.heap x v→s1.TypeIs v T∧∀a,v= .ref a→∃ob,s1.heap.get? a=some ob∧ob.dict=none)
    (hbase:∀env whole,attributeBase o (Str.ofString name) env whole=whole)
    (hform:∀env,methodCallForm es.length (backTo pos (starEach es env)) []=true) (hline:(apos.endLine==pos.line)=true)
    (hst:∀env pos,(backTo pos (starEach es env)).any (·.1)=false)
    (hq:∀v vs s1,IW B [] φ σ s.heap (x::xs) σ₂ (v::vs) s1→wpAny (model B.prog B.w) A (call (.builtin id) (v::vs)) Q E s1):
    wpAny (model B.prog B.w) A (eval (.Call (.Attribute o (Str.ofString name) apos) es [] pos) env) Q E s:=by
  refine MethodCall_ (ho.run O R I F hm fun ov s1 φ1 G1 I1 r1 F1=>?_) (HQ hbase hform hline)
  have q:=hT φ1 s1 ov I1 r1
  exact getMethod_builtin q.1 pa slot hty q.2 (OX (first:= [ov]) (.inr ⟨id,rfl⟩) hes O R I1 F1 h hst fun us s2 q=>q.elim fun φ2 q=>
    hq ov us s2 ⟨φ2,G1.trans q.1,q.2.1,Ak.cons'.mpr ⟨q.1.vrep I1 Bc r1,q.2.2⟩⟩)
noncomputable def IZ (B:Base)(φ:Phi)(σ:Hp)(h:Heap)(t:Tgt)(xs:List SV)(chk:Option (Nat×SObj))(σ':Hp):Value→Shared→Prop:=fun it s'=>
  ∃st φ' Y,st.all=xs∧st.chk=chk∧HE st t∧Grow [] φ σ h φ' σ' s'.heap∧Inv B φ' σ' s'∧DL φ' s'.heap 0 it Y st∧∀a,a∈Y→h.get? a=none∧a∉own φ'
noncomputable def Mo (B:Base)(n:Nat)(sc:Scope)(e:Expr)(m:Src)(t:Tgt):Prop:=
  ∀(A:Around) (E:Value→Shared→Prop) (env:Env) (s:Shared) (φ:Phi) (σ:Hp) (ρ:Rho) (xs:List SV) (chk:Option (Nat×SObj)) (σ':Hp),EnvOK sc env→By A n→Inv B φ σ s→FrameOK B env ρ φ s.heap→
    m ρ σ=some ((xs,chk),σ')→wpAny (model B.prog B.w) A (eval e env) (fun x s1=>wpAny (model B.prog B.w) A (pyIter x) (IZ B φ σ s.heap t xs chk σ') E s1) E s
theorem VE {kvs:List (SV×SV)}{xs:List (Int×Value)}(q:All2 (fun p q=>p.1=SV.int q.1∧Al φ h p.2 q.2) kvs xs):∀{es:List DictEntry},Pairs (intKind B.prog B.w) es xs→
    Ak φ h (kvs.map (·.1)) (es.map (·.key))∧Ak φ h (kvs.map (·.2)) (es.map (·.val)):=by
  induction q with
  | nil=>intro es p; cases p; exact⟨rfl,rfl⟩
  | @cons a b _ _ g q ih=>
    intro es p
    cases p with
    | @cons e _ _ _ h1 h2 r=>
      have i:=ih r
      have k1:Al φ h a.1 e.key:=g.1▸Value.isInt_shape (show Value.isInt _ _=true from h1)
      have k2:Al φ h a.2 e.val:=h2▸g.2
      exact⟨Ak.cons'.mpr ⟨k1,i.1⟩,Ak.cons'.mpr ⟨k2,i.2⟩⟩
theorem VF {kvs:List (SV×SV)}{xs:List (SV×Addr×Value)}(q:All2 (fun p q=>p.1=q.1∧Al φ h p.2 q.2.2) kvs xs)(his:∀x∈xs,(CG B.prog B.w).is h x.1 x.2.1):
    Ak φ h (kvs.map (·.1)) ((xs.map (entryOfKey (CG B.prog B.w))).map (·.key))∧Ak φ h (kvs.map (·.2)) ((xs.map (entryOfKey (CG B.prog B.w))).map (·.val)):=by
  induction q with
  | nil=>exact⟨rfl,rfl⟩
  | @cons a b _ _ g q ih=>
    have i:=ih fun x hx=>his x (List.mem_cons_of_mem _ hx)
    have k1:Al φ h a.1 (.ref b.2.1):=g.1▸(his _ List.mem_cons_self).2.mono (show ∀l a,Cd [] l=some a→Cd φ l=some a from fun l a e=>nomatch e) fun _ _ q=>q
    exact⟨Ak.cons'.mpr ⟨k1,i.1⟩,Ak.cons'.mpr ⟨g.2,i.2⟩⟩
theorem Hj.raw {kvs:List (SV×SV)}{a:Addr}(q:Hj B φ h kvs a):∃es ep,BM h a es ep∧Ak φ h (kvs.map (·.1)) (es.toList.map (·.key))∧Ak φ h (kvs.map (·.2)) (es.toList.map (·.val)):=
  q.elim (fun q=>q.elim fun xs q=>q.1.elim fun o p=>p.elim fun es p=>p.elim fun ep p=>⟨es,ep,⟨o,p.1,p.2.1,p.2.2.1⟩,VE q.2 p.2.2.2.2.1⟩)
    fun q=>q.elim fun xs q=>q.1.elim fun o p=>p.elim fun es p=>p.elim fun ep p=>⟨es,ep,⟨o,p.1,p.2.1,p.2.2.1⟩,p.2.2.2.1▸VF q.2 p.2.2.2.2.1⟩
theorem BM.keep {a:Addr}{es:Array DictEntry}{ep:Nat}(k:∀b o,h.get? b=some o→h'.get? b=some o)(q:BM h a es ep):BM h' a es ep:=q.elim fun o q=>⟨o,k a o q.1,q.2⟩
theorem Sq {t:Tgt}{st:ItS}{J:Addr}{xs:List SV}{chk:Option (Nat×SObj)}(G:Grow [] φ σ h φ1 σ1 s.heap)(I:Inv B φ1 σ1 s)(k:∀b o,s.heap.get? b=some o→h'.get? b=some o){tk:Nat}
    (h1:st.all=xs) (h2:st.chk=chk) (h3:HE st t) (hn:∀a,a∈Y→s.heap.get? a=none) (hi:DL φ1 h' 0 (.ref J) Y st):
    IZ B φ σ h t xs chk σ1 (.ref J) { s with heap:=h',toks:=tk }:=
  ⟨st,φ1,Y,h1,h2,h3,G.trans (.keep k),I.keep k rfl rfl,hi,fun a ha=>⟨G.fresh (hn a ha),fun q=>(Hb I q).elim fun o ho=>Bs ho (hn a ha)⟩⟩
theorem HF {t:Tgt}{st:ItS}{d:Obj}(G:Grow [] φ σ h φ1 σ1 s.heap)(I:Inv B φ1 σ1 s){tk:Nat}(h3:HE st t)(hi:DL φ1 (s.heap.push d) 0 (.ref s.heap.objs.size) [s.heap.objs.size] st):
    IZ B φ σ h t st.all st.chk σ1 (.ref s.heap.objs.size) { s with heap:=s.heap.push d,toks:=tk }:=
  Sq G I (Ax d) rfl rfl h3 (fun a ha=>List.mem_singleton.mp ha▸C5) hi
theorem JC {l:Nat}{a:Addr}{as:List Addr}(hφ:φ[l]? =some (a::as)):Cd φ l=some a:=by unfold Cd; rw[hφ]; rfl
theorem GC {A:Around}{E:Value→Shared→Prop}{c:Sem Value}{h:Heap}{t:Tgt}{st:ItS}{xs:List SV}{chk:Option (Nat×SObj)}(e:some ((st.all,st.chk),σ1)=some ((xs,chk),σ'))(q:wpAny (model B.prog B.w) A c (IZ B φ σ h t st.all st.chk σ1) E s):
    wpAny (model B.prog B.w) A c (IZ B φ σ h t xs chk σ') E s:=by
  have p:=pinj e
  have r:=Prod.mk.inj p.1
  exact r.1▸r.2▸p.2▸q
theorem Bo {e:Expr}{m:Ev}{t:Tgt}(he:Av B n sc e m):Mo B n sc e (Bn m) t:=by
  intro A E env s φ σ ρ xs chk σ' O R I F h
  refine AY h fun v σ1 hm h=>gmap h fun p hp hf=>he.run O R I F hm fun x s1 φ1 G1 I1 r1 F1=>?_
  replace hf:some (p,σ1)=some ((xs,chk),σ'):=congrArg some hf
  cases v with
  | tup ys=>
    refine gif hp fun _ hp=>?_
    obtain⟨a,items,ev,hi,hv⟩:=r1
    rw[ev]
    refine GC (st:= .tup ys) ((congrArg (fun z=>some (z,σ1)) (Option.some.inj hp)).trans hf) (wpAny_pyIter_tuple hi ?_)
    exact HF G1 I1 trivial ⟨_,a,items,rfl,rfl,⟨_,Heap.get?_push_size _ rfl,rfl,rfl⟩,EZ (Ax _) hi,hv.keep (Ax _)⟩
  | str y=>
    refine gif hp fun hc hp=>?_
    obtain⟨tk,ev⟩:=r1
    rw[ev]
    refine GC (st:= .str y) ((congrArg (fun z=>some (z,σ1)) (Option.some.inj hp)).trans hf) (wpAny_pyIter_ascii ?_ ?_)
    · rw[Str.ofString_eq_toList]
      have:=hc.2
      rw[List.all_eq_true] at this
      simp only[List.all_toArray,List.all_map,List.all_eq_true]
      intro ch hch
      simpa using this ch hch
    · exact HF G1 I1 trivial ⟨_,tk,rfl,rfl,⟨_,Heap.get?_push_size _ rfl,rfl,rfl⟩⟩
  | loc l=>
    replace hp:(match σ1[l]? with | some (.list xs)=>some (xs,some (l,SObj.list xs)) | some (.dict kvs ver)=>some (kvs.map (·.1),some (l,SObj.dict kvs ver)) | _=>none)=some p:=hp
    cases hl:σ1[l]? with
    | none=>rw[hl] at hp; exact nomatch hp
    | some o=>
    rw[hl] at hp
    cases o with
    | list ys=>
      obtain⟨a,items,ev,hφ,hi,hv,_⟩:=I1.list_at hl r1
      rw[ev]
      exact GC (st:= .list l ys) ((congrArg (fun z=>some (z,σ1)) (Option.some.inj hp)).trans hf) (wpAny_pyIter_list hi (HF G1 I1 trivial ⟨_,a,rfl,rfl,JC hφ,⟨_,Heap.get?_push_size _ rfl,rfl,rfl⟩⟩))
    | dict kvs ver=>
      obtain⟨a,ev,hφ,hd,_⟩:=I1.dict_at hl r1
      obtain⟨es,ep,hR,h1,h2⟩:=hd.raw
      rw[ev]
      exact GC (st:= .keys l kvs ver) ((congrArg (fun z=>some (z,σ1)) (Option.some.inj hp)).trans hf) (Qy (I1.mods a (BL hφ List.mem_cons_self)) hR
        (HF G1 I1 trivial ⟨_,a,es,ep,rfl,rfl,JC hφ,⟨_,Heap.get?_push_size _ rfl,rfl,rfl⟩,hR.keep (Ax _),h1.keep (Ax _)⟩))
    | inst _ _=>exact nomatch hp
  | _=>exact nomatch hp
end Mine
namespace Mine
open scoped Classical
open PySem PySem.W PySem.Calls PyProof.Rows
open Sem (wp)
variable {B:Base}{X Y:List Addr}{φ φ' φ1 φ2:Phi}{σ σ' σ1 σ₂:Hp}{h h' h₁ h₂:Heap}{s s' s1 s2:Shared}{n:Nat}{sc:Scope}{env:Env}{ρ ρ':Rho}{A:Around}{E:Value→Shared→Prop}
theorem FM {a:SV}{vs:List Value}(q:Ak φ h [a] vs):∃u,vs= [u]∧Al φ h a u:=
  q.elim fun u q=>q.elim fun r q=>⟨u,q.1.trans (congrArg _ (show r= [] from q.2.2)),q.2.1⟩
theorem HG {m:Ev}{v:SV}(h:m ρ σ=some (v,σ')):evs [m] ρ σ=some ([v],σ'):=by
  show bnd (m ρ σ) _=_
  rw[h]; rfl
theorem RT {k:Nat}(hk:(k:Int)<lim):Builtin.Range.small 0 (k:Int) 1=true∧Builtin.Range.rangeSize 0 (k:Int) 1=(k:Int):=by
  unfold lim at hk
  have e:Builtin.Range.rangeSize 0 (k:Int) 1=(k:Int):=by
    unfold Builtin.Range.rangeSize
    simp
    try omega
  refine⟨?_,e⟩
  unfold Builtin.Range.small
  rw[e]
  unfold Builtin.Range.rangeFitsLong
  simp
  omega
theorem Ff {e:Expr}{m:Ev}{t:Tgt}{np pos:Pos}(ok:BuiltinOK B sc "range" (.type "range"))(he:Av B n sc e m)(hs:Cl e=true:=by rfl)
    (hst:∀env pos,(backTo pos (starEach [e] env)).any (·.1)=false:=by intro _ _; rfl):
    Mo B n sc (.Call (.Name (Str.ofString "range") np) [e] [] pos) (EC m) t:=by
  intro A E env s φ σ ρ xs chk σ' O R I F h
  refine AY h fun v σ1 hm h=>CH h fun k hv h=>gif h fun hk h=>Ld ok (.inl ⟨_,rfl⟩) (Ac he Ad hs) O R I F (HG hm) hst fun vs s1 q=>?_
  obtain⟨φ1,G1,I1,r1⟩:=q
  obtain⟨u,eu,hu⟩:=FM r1
  obtain⟨tk,ei⟩:=(show Al φ1 s1.heap (.int k) u from Ep hv▸hu)
  obtain⟨j,rfl⟩:=Int.eq_ofNat_of_zero_le hk.1
  rw[eu,ei]
  refine call_range_1 ?_
  obtain⟨e1,e2⟩:=RT hk.2
  refine GC (st:= .range j) h (wpAny_pyIter_range (Heap.get?_push_size _ rfl) e1 ?_)
  rw[e2]
  have kk:∀b o,s1.heap.get? b=some o→(s1.heap.push { cls:= .type "range",data:= .fields #[.int 0 s1.toks,.int j tk,.int 1 (s1.toks+1)] }).get? b=some o:=Ax _
  have I2:Inv B φ1 σ1 { s1 with heap:=s1.heap.push { cls:= .type "range",data:= .fields #[.int 0 s1.toks,.int j tk,.int 1 (s1.toks+1)] },toks:=s1.toks+1+1 }:=I1.keep kk rfl rfl
  refine HF (st:= .range j) (G1.trans (.keep kk)) I2 trivial ⟨_,rfl,rfl,?_⟩
  rw[Int.natCast_zero,Int.sub_zero]
  exact Heap.get?_push_size _ rfl
theorem Us {e:Expr}{m:Ev}{x y:String}{np pos:Pos}(ok:BuiltinOK B sc "enumerate" (.type "enumerate"))(he:Av B n sc e m)(hs:Cl e=true:=by rfl)
    (hst:∀env pos,(backTo pos (starEach [e] env)).any (·.1)=false:=by intro _ _; rfl):
    Mo B n sc (.Call (.Name (Str.ofString "enumerate") np) [e] [] pos) (MU m) (.pair x y):=by
  intro A E env s φ σ ρ xs chk σ' O R I F h
  refine AY h fun v σ1 hm h=>B7 h fun l ys ev hl h=>Ld ok (.inl ⟨_,rfl⟩) (Ac he Ad hs) O R I F (HG hm) hst fun vs s1 q=>?_
  obtain⟨φ1,G1,I1,r1⟩:=q
  obtain⟨u,eu,hu⟩:=FM r1
  obtain⟨a,items,ea,hφ,hi,hv,_⟩:=I1.list_at hl (ev▸hu)
  rw[eu,ea]
  refine call_enumerate_list hi fun h' he hit hsz kk=>GC (st:= .enum l ys) h (wpAny_pyIter_enum he ?_)
  refine Sq (Y:= [s1.heap.objs.size+1,s1.heap.objs.size]) (s:=s1) (tk:=s1.toks) G1 I1 kk rfl rfl ⟨x,y,rfl⟩ (fun b hb=>?_) ⟨_,_,a,_,rfl,rfl,Nat.succ_ne_self _,JC hφ,he,hit⟩
  cases q:s1.heap.get? b with
  | none=>rfl
  | some o=>exact absurd (Heap.lt_size q) (Nat.not_lt.mpr ((List.mem_cons.mp hb).elim (fun e=>e▸Nat.le_succ _) fun hb=>List.mem_singleton.mp hb▸Nat.le_refl _))
theorem Nc {e:Expr}{m:Ev}{x y:String}{apos pos:Pos}(he:Av B n sc e m)
    (hbase:∀env whole,attributeBase e (Str.ofString "items") env whole=whole:=by intro _ _; rfl)
    (hline:(apos.endLine==pos.line)=true:=by rfl):
    Mo B n sc (.Call (.Attribute e (Str.ofString "items") apos) [] [] pos) (FW m) (.pair x y):=by
  intro A E env s φ σ ρ xs chk σ' O R I F h
  refine AY h fun v σ1 hm h=>Jp h fun l kvs ver ev hl h=>Hw (id:= "dict.items") PySem.F.plainAttrs_dict PySem.F.slot_dict_items PySem.F.type_dict_items he Ad O R I F hm rfl (fun φ1 s1 v I1 r1=>?_) hbase (fun _=>rfl) hline (fun _ _=>rfl) fun v vs s1 q=>?_
  · obtain⟨a,ea,hφ,hd,_⟩:=I1.dict_at hl (ev▸r1)
    exact hd.raw.elim fun es q=>q.elim fun ep q=>ea▸⟨q.1.typeIs,fun b hb=>q.1.elim fun o q=>⟨o,Value.ref.inj hb▸q.1,q.2.1.2.1⟩⟩
  · obtain⟨φ1,G1,I1,r1⟩:=q
    obtain⟨u,hu,hr⟩:=FM r1
    obtain⟨a,ea,hφ,hd,_⟩:=I1.dict_at hl (ev▸hr)
    obtain⟨es,ep,hR,h1,h2⟩:=hd.raw
    rw[hu,ea]
    refine Ur (I1.mods a (BL hφ List.mem_cons_self)) hR ?_
    have kk:∀b o,s1.heap.get? b=some o→(s1.heap.push { cls:= .type "dict_items",data:= .fields #[.ref a] }).get? b=some o:=Ax _
    refine GC (st:= .items l kvs ver) h (PF ⟨_,Heap.get?_push_size _ rfl,rfl,rfl⟩ (hR.keep kk) ?_)
    have I2:Inv B φ1 σ1 { s1 with heap:=s1.heap.push { cls:= .type "dict_items",data:= .fields #[.ref a] } }:=I1.keep kk rfl rfl
    exact HF (st:= .items l kvs ver) (G1.trans (.keep kk)) I2 ⟨x,y,rfl⟩ ⟨_,a,es,ep,_,_,rfl,rfl,JC hφ,Heap.get?_push_size _ rfl,(hR.keep kk).keep (Ax _),(h1.keep kk).keep (Ax _),(h2.keep kk).keep (Ax _)⟩
end Mine
namespace Mine
open scoped Classical
open PySem PySem.W PySem.Calls PyProof.Rows
open Sem (wp)
variable {B:Base}{X Y:List Addr}{φ φ' φ1 φ2:Phi}{σ σ' σ1 σ₂:Hp}{h h' h₁ h₂:Heap}{s s' s1 s2:Shared}{n:Nat}{sc:Scope}{env:Env}{ρ ρ':Rho}{A:Around}{E:Value→Shared→Prop}
theorem DL.alive {st:ItS}{k:Nat}{it:Value}(q:DL φ h k it Y st):∀b,b∈Y→∃o,h.get? b=some o:=by
  intro b hb
  cases st with
  | list l xs=>obtain⟨J,a,rfl,rfl,h1,o,ho,_⟩:=q; rw[List.mem_singleton.mp hb]; exact⟨o,ho⟩
  | tup xs=>obtain⟨J,t,its,rfl,rfl,⟨o,ho,_⟩,_⟩:=q; rw[List.mem_singleton.mp hb]; exact⟨o,ho⟩
  | range n=>obtain⟨J,rfl,rfl,h1⟩:=q; rw[List.mem_singleton.mp hb]; exact⟨_,h1⟩
  | enum l xs=>
    obtain⟨e,J,a,old,rfl,rfl,h1,h2,h3,o,ho,_⟩:=q
    simp only[List.mem_cons,List.not_mem_nil,or_false] at hb
    rcases hb with rfl | rfl
    · exact⟨_,h3⟩
    · exact⟨_,ho⟩
  | keys l kvs ver=>obtain⟨J,a,es,ep,rfl,rfl,h1,⟨o,ho,_⟩,_⟩:=q; rw[List.mem_singleton.mp hb]; exact⟨o,ho⟩
  | items l kvs ver=>obtain⟨J,a,es,ep,ok,ov,rfl,rfl,h1,h2,_⟩:=q; rw[List.mem_singleton.mp hb]; exact⟨_,h2⟩
  | str x=>obtain⟨J,t,rfl,rfl,o,ho,_⟩:=q; rw[List.mem_singleton.mp hb]; exact⟨o,ho⟩
theorem Grow.notOwn (G:Grow X φ σ h φ' σ' h'){a:Addr}(ho:a∉own φ){o:Obj}(e:h.get? a=some o):a∉own φ':=by
  obtain⟨ψ,e0,e1⟩:=G.ext
  rw[e0,DT,List.mem_append]
  exact fun q=>q.elim ho fun q=>Bs e (e1 a q)
theorem Grow.after' {φ0:Phi}{σ0:Hp}{h0:Heap}(G:Grow X φ0 σ0 h0 φ σ h)(k:∀b o,b∉Y→h.get? b=some o→h'.get? b=some o)(hy:∀a,a∈Y→h0.get? a=none):Grow X φ0 σ0 h0 φ σ h':=by
  refine⟨G.ext,fun a o e hx hl=>k a o (fun q=>by rw[hy a q] at e; cases e) (G.kept a o e hx hl),G.vers,fun a o e=>?_⟩
  obtain⟨o',e'⟩:=G.alive a o e
  exact⟨o',k a o' (fun q=>by rw[hy a q] at e; cases e) e'⟩
theorem Grow.forget {Z:List Addr}(G:Grow X φ σ h φ' σ' h')(hx:∀a,a∈X→a∈Z∨h.get? a=none):Grow Z φ σ h φ' σ' h':=
  ⟨G.ext,fun a o e hz hl=>G.kept a o e (fun q=>(hx a q).elim hz fun z=>by rw[z] at e; cases e) hl,G.vers,G.alive⟩
theorem FrameOK.but (F:FrameOK B env ρ φ h)(k:∀b o,b∉Y→h.get? b=some o→h'.get? b=some o)(N:Dr Y h)(hx:∀a,a∈Bx env→a∉Y):FrameOK B env ρ φ h':=by
  have tk:∀b items,h.IsTuple b items→h'.IsTuple b items:=fun b items q=>by
    obtain⟨o,ho,r⟩:=q
    exact⟨o,k b o (fun e=>N b e items ⟨o,ho,r⟩) ho,r⟩
  have keep:∀a,a∈Bx env→∀o,h.get? a=some o→h'.get? a=some o:=fun a ha o e=>k a o (hx a ha) e
  have kc:∀x c v,(x,c)∈env.cells→h.IsCell c v→h'.IsCell c v:=fun x c v hm hc=>by
    obtain⟨o,ho,hd⟩:=hc
    exact⟨o,keep c (List.mem_cons_of_mem _ (List.mem_map.mpr ⟨_,hm,rfl⟩)) o ho,hd⟩
  obtain⟨m,hn,hv⟩:=F.ns
  refine⟨⟨m,?_,fun x v e=>?_⟩,fun x e=>?_,F.apart,fun x c hm=>?_,F.notOwn,F.above⟩
  · obtain⟨o,es,ep,ho,r⟩:=hn
    exact⟨o,es,ep,keep _ List.mem_cons_self o ho,r⟩
  · obtain⟨u,hu,hr⟩:=hv x v e
    refine⟨u,?_,hr.mono (fun _ _ q=>q) tk⟩
    rcases hu with hu | ⟨h1,c,h2,h3⟩
    · exact .inl hu
    · exact .inr ⟨h1,c,h2,kc _ c _ (mem_of_lookup h2) h3⟩
  · obtain⟨c,v,h1,h2⟩:=F.cells x e
    exact⟨c,v,h1,kc _ c _ (mem_of_lookup h1) h2⟩
  · obtain⟨v,hv⟩:=F.alive x c hm
    exact⟨v,kc x c v hm hv⟩
theorem FrameOK.envAlive (F:FrameOK B env ρ φ h){a:Addr}(ha:a∈Bx env):∃o,h.get? a=some o:=by
  obtain⟨m,⟨o,es,ep,ho,_⟩,_⟩:=F.ns
  rcases List.mem_cons.mp ha with rfl | ha
  · exact⟨o,ho⟩
  · obtain⟨p,hp,rfl⟩:=List.mem_map.mp ha
    obtain⟨v,o,ho,_⟩:=F.alive p.1 p.2 hp
    exact⟨o,ho⟩
theorem OY {t:Tgt}{chk:Option (Nat×SObj)}{m:Ex}{xs:List SV}{r:Flw×Rho×Hp}(h:FX t chk m xs ρ σ=some r):Cj chk σ=true:=by
  cases xs with
  | nil=>exact gif h fun q _=>q
  | cons x xs=>exact gif h fun q _=>q
theorem Mp {α:Type}{xs:List α}{k:Nat}{x:α}{r:List α}(e:xs.drop k=x::r):xs[k]? =some x∧xs.drop (k+1)=r∧k<xs.length:=by
  have h1:(xs.drop k)[0]? =some x:=by rw[e]; rfl
  rw[List.getElem?_drop,Nat.add_zero] at h1
  refine⟨h1,?_,(List.getElem?_eq_some_iff.mp h1).1⟩
  rw[←List.drop_drop,e]; rfl
theorem CW {t:Tgt}{te e:Expr}{src:Src}{body:List Stmt}{m:Ex}{pos:Pos}(hsrc:Mo B n sc e src t)(hb:EE B n sc body m)(ht:EU sc t te)
    (hs:∀env x,foldedSetIterable e env x=pure x:=by intro _ _; rfl):Ec B n sc (.For te e body [] pos) (CN t src m):=by
  intro A E env s φ σ ρ f ρ' σ' O R I F h
  refine AY h fun p σ1 hm h=>wpAny_For (wpAny_mono (hsrc A E env s φ σ ρ p.1 p.2 σ1 O R I F hm) (fun x s1 q=>wpAny_mono q (fun it s2 q=>?_) fun _ _ q=>q) fun _ _ q=>q) (hs env)
  obtain⟨st,φ1,Y,e1,e2,hfit,G1,I1,hit,hY⟩:=q
  rw[←e1, ←e2] at h
  have hYenv:∀a,a∈Bx env→a∉Y:=fun a ha q=>(F.envAlive ha).elim fun o ho=>Bs ho (hY a q).1
  have hYbase:∀a,a∈Y→B.S.heap.get? a=none:=fun a ha=>Dx I (hY a ha).1
  refine codeAny_forLoop_any (fun j s3=>∃k φ3 σ3 ρ3,j=st.all.length-k∧Grow (Y++Bx env) φ σ s.heap φ3 σ3 s3.heap∧Inv B φ3 σ3 s3∧FrameOK B env ρ3 φ3 s3.heap∧DL φ3 s3.heap k it Y st∧
    (∀a,a∈Y→a∉own φ3)∧FX t st.chk m (st.all.drop k) ρ3 σ3=some (f,ρ',σ')) (fun j s3 J=>?_) st.all.length
    ⟨0,φ1,σ1,ρ,rfl,G1.any,I1,F.grow' I G1,hit,fun a ha=>(hY a ha).2,h⟩
  obtain⟨k,φ3,σ3,ρ3,ej,G3,I3,F3,hit3,hO,hgo⟩:=J
  have hc:=OY hgo
  have hy:∀a,a∈Y→a∉own φ3∧B.S.heap.get? a=none:=fun a ha=>⟨hO a ha,hYbase a ha⟩
  have fgt:∀{φ' σ' h'},Grow (Y++Bx env) φ σ s.heap φ' σ' h'→Grow (Bx env) φ σ s.heap φ' σ' h':=fun G=>G.forget fun a ha=>(List.mem_append.mp ha).elim (fun q=> .inr (hY a q).1) .inl
  cases hd:st.all.drop k with
  | nil=>
    rw[hd] at hgo
    refine gif hgo fun _ hgo=>strip hgo (OW R.handled I3 hit3 hc hy (List.getElem?_eq_none (List.drop_eq_nil_iff.mp hd)) fun h' kk I4=>wpAny_execs_nil ?_)
    exact⟨φ3,fgt (G3.after' kk fun a ha=>(hY a ha).1),I4,F3.but kk hit3.noTups hYenv,rfl⟩
  | cons x r=>
    obtain⟨hx,hr,hlt⟩:=Mp hd
    rw[hd] at hgo
    refine gif hgo fun _ hgo=>CH hgo fun ρ4 hbt hgo=>OV I3 hit3 hc hy ht hfit hx fun v s4 q=>wpAny_mono q (fun _ s5 q=>?_) fun _ _ q=>q
    obtain⟨G5,I5,r5,hit5⟩:=q
    have F5:FrameOK B env ρ3 φ3 s5.heap:=F3.grow I3 G5 hit3.noTups hYenv
    refine OU O R.handled I5 F5 ht r5 hbt fun s6 G6 I6 F6=>?_
    have hit6:DL φ3 s6.heap (k+1) it Y st:=hit5.stay I5 G6 F5.noTups F5.notOwn (fun a ha=>⟨fun q=>hYenv a q ha,hO a ha⟩) hc hc
    have G6':=(G3.trans (G5.weaken (Y:=Y++Bx env) fun a ha=>List.mem_append_left _ ha)).trans (G6.weaken (Y:=Y++Bx env) fun a ha=>List.mem_append_right _ ha)
    refine L9 hgo (fun ρ7 σ7 hm7 hgo=>hb.run O R I6 F6 hm7 fun fl s7 φ7 G7 I7 F7 hfl=>?_) fun u hm7 ef=>hb.run O R I6 F6 hm7 fun fl s7 φ7 G7 I7 F7 hfl=>?_
    · rw[show fl= .next from hfl]
      exact⟨st.all.length-(k+1),ej▸Nat.sub_lt_sub_left hlt (Nat.lt_succ_self k),k+1,φ7,σ7,ρ7,rfl,G6'.trans (G7.weaken fun a ha=>List.mem_append_right _ ha),I7,F7,
        hit6.stay I6 G7 F6.noTups F6.notOwn (fun a ha=>⟨fun q=>hYenv a q ha,hO a ha⟩) hc (OY hgo),fun a ha=>(hit6.alive a ha).elim fun o ho=>G7.notOwn (hO a ha) ho,hr▸hgo⟩
    · obtain⟨v,e,hv⟩:=hfl
      rw[e,ef]
      exact⟨φ7,fgt (G6'.trans (G7.weaken fun a ha=>List.mem_append_right _ ha)),I7,F7,v,rfl,hv⟩
theorem GR {e:Expr}{t:Tv}{body:List Stmt}{m:Ex}{pos:Pos}(he:Eb B n sc e t)(hb:EE B n sc body m):Ec B n sc (.While e body [] pos) (HM t m):=by
  intro A E env s φ σ ρ f ρ' σ' O R I F h
  refine wpAny_While (codeAny_whileLoop (fun j s3=>∃φ3 σ3 ρ3,Grow (Bx env) φ σ s.heap φ3 σ3 s3.heap∧Inv B φ3 σ3 s3∧FrameOK B env ρ3 φ3 s3.heap∧HC t m j ρ3 σ3=some (f,ρ',σ')) (fun j s3 J=>?_) FR
    ⟨φ,σ,ρ,.refl,I,F,h⟩)
  obtain⟨φ3,σ3,ρ3,G3,I3,F3,hgo⟩:=J
  cases j with
  | zero=>exact nomatch hgo
  | succ j=>
    refine AY hgo fun c σ4 hm hgo=>he.run O R I3 F3 hm fun s4 φ4 G4 I4 F4=>?_
    cases c with
    | true=>
      refine L9 hgo (fun ρ5 σ5 hm5 hgo=>hb.run O R I4 F4 hm5 fun fl s5 φ5 G5 I5 F5 hfl=>?_) fun u hm5 ef=>hb.run O R I4 F4 hm5 fun fl s5 φ5 G5 I5 F5 hfl=>?_
      · rw[show fl= .next from hfl]
        exact⟨j,Nat.lt_succ_self _,φ5,σ5,ρ5,(G3.trans G4.any).trans G5,I5,F5,hgo⟩
      · obtain⟨v,e,hv⟩:=hfl
        rw[e,ef]
        exact⟨φ5,(G3.trans G4.any).trans G5,I5,F5,v,rfl,hv⟩
    | false=>exact strip hgo (wpAny_execs_nil ⟨φ4,G3.trans G4.any,I4,F4,rfl⟩)
end Mine
namespace Mine
open scoped Classical
open PySem PySem.W PySem.Calls PyProof.Rows
open Sem (wp)
variable {B:Base}{X Y:List Addr}{φ φ' φ1 φ2:Phi}{σ σ' σ1 σ₂:Hp}{h h' h₁ h₂:Heap}{s s' s1 s2:Shared}{n:Nat}{sc:Scope}{env:Env}{ρ ρ':Rho}{A:Around}{E:Value→Shared→Prop}
abbrev Mq (sc:Scope):Tgt→Prop:=Km (IY sc)
theorem Tu {t:Tgt}{e:Expr}{v:SV}{u:Value}(O:EnvOK sc env)(hh:A.handled=none)(I:Inv B φ σ s)(F:FrameOK B env ρ φ s.heap)(ht:EU sc t e)(hl:Mq sc t)(r:Al φ s.heap v u)(hb:Ct t v ρ σ=some ρ')
    {Q:Unit→Shared→Prop} (hq:∀s',Grow [env.locals] φ σ s.heap φ σ s'.heap→Inv B φ σ s'→FrameOK B env ρ' φ s'.heap→Q () s'):wpAny (model B.prog B.w) A (assign e env u) Q E s:=
  Nb (P:=IY sc) (fun I F r hk hq=>OT O I F r hk hq) hh I F ht hl r hb hq
theorem J4:entryFor table "dict_itemiterator.__iter__" =some Builtin.«dict_keyiterator.__iter__» :=
  entryFor_alias (id':= "dict_keyiterator.__iter__") (by rw[fastTable_eq_tree]; kernel_rfl) rfl (by decide +kernel) (by rw[fastTable_eq_tree]; kernel_rfl)
theorem PH {it d:Addr}{i k ep:Nat}{ok ov:Value}{Q:Value→Shared→Prop}(hit:IsItemIter s.heap it d i k ep ok ov)(hq:Q (.ref it) s):wpAny (model B.prog B.w) A (pyIter (.ref it)) Q E s:=by
  have hT:s.TypeIs (.ref it) "dict_itemiterator" :=⟨_,hit,rfl⟩
  refine wpAny_pyIter_slot hT PySem.F.slot_dict_itemiterator_iter (wpAny_call_entry PySem.F.slot_dict_itemiterator_iter hT J4 ?_ (PySem.F.args_dict_itemiterator_iter_1 _))
  show wpAny _ _ (ret (.ref it)) _ _ s
  exact wpAny_pure ⟨_,rfl, "dict_itemiterator",_,hT,PySem.F.slot_dict_itemiterator_next.lookup,hq⟩
theorem DL.self {st:ItS}{k:Nat}{it:Value}(q:DL φ s.heap k it Y st){Q:Value→Shared→Prop}(hq:Q it s):wpAny (model B.prog B.w) A (pyIter it) Q E s:=by
  cases st with
  | list l xs=>obtain⟨J,a,rfl,rfl,h1,h2⟩:=q; exact wpAny_pyIter_listiter h2 hq
  | tup xs=>obtain⟨J,t,its,rfl,rfl,h2,_⟩:=q; exact wpAny_pyIter_tupleiter h2 hq
  | range n=>obtain⟨J,rfl,rfl,h1⟩:=q; exact wpAny_pyIter_rangeiter h1 hq
  | enum l xs=>obtain⟨e,J,a,old,rfl,rfl,h1,h2,h3,_⟩:=q; exact wpAny_pyIter_enum h3 hq
  | keys l kvs ver=>obtain⟨J,a,es,ep,rfl,rfl,h1,h2,_⟩:=q; exact wpAny_pyIter_keyiter h2 hq
  | items l kvs ver=>obtain⟨J,a,es,ep,ok,ov,rfl,rfl,h1,h2,_⟩:=q; exact PH h2 hq
  | str x=>obtain⟨J,t,rfl,rfl,h2⟩:=q; exact wpAny_pyIter_striter_ascii h2 hq
theorem Tw {elt target iter:Expr}{ifs:List Expr}{scope:Scope}{pos:Pos}{it acc:Value}{env:Env}{R:Result→Shared→Prop}(I:Nat→Shared→Prop)
    (turn:∀n s,I n s→wpAny (model B.prog B.w) A (pyNext it) (fun r s1=>match r with
      | none=>R (.ok .next) s1
      | some v=>wpAny (model B.prog B.w) A (letOwnedTupleGo target it v) (fun _ s1'=>wpAny (model B.prog B.w) A (assign target env v) (fun _ s2=>
          wpAny (model B.prog B.w) A (forIn ifs true fun c r=>if r=true then do let ok ←isTrue c env (eval c env); pure (ForInStep.yield ok) else pure (ForInStep.yield r)) (fun ok s3=>
            if ok=true then wpAny (model B.prog B.w) A (eval elt env) (fun x s4=>
              wpAny (model B.prog B.w) A (call (.builtin "list.append") [acc,x]) (fun _ s5=>∃m,m<n∧I m s5) (notedBy (model B.prog B.w) A env fun e s'=>R (.error e) s') s4) (notedBy (model B.prog B.w) A env fun e s'=>R (.error e) s') s3
            else ∃m,m<n∧I m s3) (notedBy (model B.prog B.w) A env fun e s'=>R (.error e) s') s2) (notedBy (model B.prog B.w) A env fun e s'=>R (.error e) s') s1') (notedBy (model B.prog B.w) A env fun e s'=>R (.error e) s') s1)
      (notedBy (model B.prog B.w) A env fun e s'=>R (.error e) s') s)
    (n:Nat) (h:I n s):
    codeAny (model B.prog B.w) A (.compLoop (.ListComp elt [⟨target,iter,ifs,0⟩] scope pos) 0 it acc env) R s:=by
  refine codeAny_loop rfl I (fun n s hI=>?_) n h
  show wpAny _ A ((compTurn (.ListComp elt [⟨target,iter,ifs,0⟩] scope pos) 0 it acc env).onRaise (fun x=>do noteFrame x env; theTreesLotGoes x)) _ _ s
  refine wpAny_noted ?_
  rw[compTurn_list]
  refine wpAny_bind (wpAny_standAt (wpAny_bind (wpAny_mono (turn n s hI) (fun r s1 h₁=>?_) fun _ _ h'=>h')))
  cases r with
  | none=>exact wpAny_pure h₁
  | some v=>
    refine wpAny_bind (wpAny_mono h₁ (fun _ s1' h₁=>?_) fun _ _ h'=>h')
    refine wpAny_bind (wpAny_mono h₁ (fun _ s2 h₂=>wpAny_bind (wpAny_mono h₂ (fun ok s3 h₃=>?_) fun _ _ h'=>h')) fun _ _ h'=>h')
    cases ok with
    | false=>exact wpAny_pure ⟨rfl,h₃⟩
    | true=>
      exact wpAny_bind (wpAny_bind (wpAny_mono h₃ (fun x s4 h4=>wpAny_bind (wpAny_mono h4 (fun _ s5 h5=>wpAny_pure (wpAny_pure ⟨rfl,h5⟩)) fun _ _ h'=>h')) fun _ _ h'=>h'))
noncomputable def Ja (B:Base)(n:Nat)(sc:Scope):List Expr→List Tv→Prop
  | [], []=>True
  | e::es,t::ts=>Eb B n sc e t∧Ja B n sc es ts
  | _,_=>False
abbrev JD (ifs:List Expr)(env:Env)(b:Bool):Sem Bool:=forIn ifs b fun c r=>if r=true then do let ok ←isTrue c env (eval c env); pure (ForInStep.yield ok) else pure (ForInStep.yield r)
theorem Oa (env:Env){ifs:List Expr}:∀{Q:Bool→Shared→Prop} {s:Shared},Q false s→wpAny (model B.prog B.w) A (JD ifs env false) Q E s:=by
  induction ifs with
  | nil=>exact fun h=>wpAny_pure h
  | cons c cs ih=>
    intro Q s h
    unfold JD
    rw[List.forIn_cons]
    exact wpAny_bind (wpAny_pure (ih h))
theorem RU {ifs:List Expr}:∀{ts:List Tv} {s:Shared} {φ:Phi} {σ:Hp} {b:Bool},Ja B n sc ifs ts→EnvOK sc env→By A n→Inv B φ σ s→FrameOK B env ρ φ s.heap→Hu ts ρ σ=some (b,σ')→
    wpAny (model B.prog B.w) A (JD ifs env true) (fun b' s'=>b'=b∧Gb B [] φ σ s.heap σ' s') E s:=by
  induction ifs with
  | nil=>
    intro ts s φ σ b H O R I F h
    cases ts with
    | nil=>exact spair h (wpAny_pure ⟨rfl,φ,.refl,I⟩)
    | cons _ _=>exact H.elim
  | cons c cs ih=>
    intro ts s φ σ b H O R I F h
    cases ts with
    | nil=>exact H.elim
    | cons t ts=>
    unfold JD
    rw[List.forIn_cons]
    refine AY h fun c σ1 hm h=>wpAny_bind (wpAny_bind (H.1.run O R I F hm fun s1 φ1 G1 I1 F1=>wpAny_pure ?_))
    cases c with
    | true=>exact Mi G1 (ih H.2 O R I1 F1 h)
    | false=>exact spair h (Oa env ⟨rfl,φ1,G1,I1⟩)
end Mine
namespace Mine
open scoped Classical
open PySem PySem.W PySem.Calls PyProof.Rows
open Sem (wp)
variable {B:Base}{X Y:List Addr}{φ φ' φ1 φ2:Phi}{σ σ' σ1 σ₂:Hp}{h h' h₁ h₂:Heap}{s s' s1 s2:Shared}{n:Nat}{sc:Scope}{env:Env}{ρ ρ':Rho}{A:Around}{E:Value→Shared→Prop}
noncomputable def BQ (scope outer:Scope):Scope:=
  { scope with names:=scope.names.map fun(n,k)=>if(k == .free&&outer.kind == .function&&outer.names.lookup n==some .cell) then(n,.cell) else(n,k) }
theorem Tx {csc:Scope}(O:EnvOK sc env):relabel csc env=BQ csc sc:=by
  unfold relabel BQ Env.kindOf
  rw[O.scope]
noncomputable def ER (cells:List (Str×Addr))(names:List (Str×NameKind)):List (Str×Addr):=
  ((names.filter fun p=>p.2 == .free).map fun p=>(p.1,(cells.lookup p.1).getD 0)).reverse
theorem Nf:∀(names:List (Str×NameKind)) (cs:List (Str×Addr)),(∀p∈names,p.2= .free→∃c,env.cells.lookup p.1=some c)→
    (forIn names cs fun(p:Str×NameKind) (r:List (Str×Addr))=>(if(p.2==NameKind.free)=true then do let c ←cellOf env p.1; pure (ForInStep.yield ((p.1,c)::r)) else pure (ForInStep.yield r):Sem (ForInStep (List (Str×Addr)))))=pure (ER env.cells names++cs)
  | [],cs,_=>rfl
  | (x,k)::r,cs,hn=>by
    rw[List.forIn_cons]
    have ih:=fun cs=>Nf r cs fun p hp=>hn p (List.mem_cons_of_mem _ hp)
    by_cases hk:k= .free
    · subst hk
      obtain⟨c,hc⟩:=hn (x,.free) List.mem_cons_self rfl
      have e:cellOf env x=pure c:=by unfold cellOf; rw[hc]
      simp only[beq_self_eq_true,if_true,e,pure_bind]
      rw[ih]
      simp[ER,hc]
    · have:(k==NameKind.free)=false:=by simpa using hk
      simp only[this,Bool.false_eq_true,if_false,pure_bind]
      rw[ih]
      simp[ER,this]
theorem Ty {csc:Scope}(hn:∀p∈csc.names,p.2= .free→∃c,env.cells.lookup p.1=some c):closureFor csc env=pure (ER env.cells csc.names):=by
  have:=Nf (env:=env) csc.names [] hn
  rw[List.append_nil] at this
  simp only[closureFor]
  rw[show(fun(x:Str×NameKind) (r:List (Str×Addr))=>(match x with | (name,kind)=>if(kind==NameKind.free)=true then do let __do_lift ←cellOf env name; pure (ForInStep.yield ((name,__do_lift)::r)) else pure (ForInStep.yield r):Sem (ForInStep (List (Str×Addr)))))=
    fun(p:Str×NameKind) (r:List (Str×Addr))=>(if(p.2==NameKind.free)=true then do let c ←cellOf env p.1; pure (ForInStep.yield ((p.1,c)::r)) else pure (ForInStep.yield r)) from rfl]
  rw[this]
  rfl
theorem JE {cells:List (Str×Addr)}{names:List (Str×NameKind)}{x:Str}{c:Addr}:(x,c)∈ER cells names↔(x,.free)∈names∧c=(cells.lookup x).getD 0:=by
  unfold ER
  simp only[List.mem_reverse,List.mem_map,List.mem_filter,beq_iff_eq,Prod.mk.injEq]
  constructor
  · intro hrin; obtain⟨⟨a,k⟩,⟨h1,h2⟩,rfl,rfl⟩:=hrin
    dsimp only at h2; subst h2
    exact⟨h1,rfl⟩
  · intro hrin; obtain⟨h1,rfl⟩:=hrin
    exact⟨_,⟨h1,rfl⟩,rfl,rfl⟩
theorem JW {α β:Type} [BEq α] [LawfulBEq α]:∀{l:List (α×β)} {x:α} {c:β},(x,c)∈l→(∀c',(x,c')∈l→c'=c)→l.lookup x=some c
  | (y,d)::r,x,c,hm,hu=>by
    by_cases e:x=y
    · subst e
      rw[List.lookup_cons_self,hu d List.mem_cons_self]
    · have e':(x==y)=false:=by simpa using e
      rw[List.lookup_cons,e']
      refine JW (List.mem_of_ne_of_mem (fun q=>e (congrArg Prod.fst q)) hm) fun c' hc'=>hu c' (List.mem_cons_of_mem _ hc')
theorem Eu {α β:Type} [BEq α] [LawfulBEq α]:∀{l:List (α×β)} {x:α} {c:β},l.lookup x=some c→(x,c)∈l
  | [],_,_,e=>by cases e
  | (y,d)::r,x,c,e=>by
    rw[List.lookup_cons] at e
    split at e
    · rename_i hxy; cases e; rw[beq_iff_eq.mp hxy]; exact List.mem_cons_self
    · exact List.mem_cons_of_mem _ (Eu e)
noncomputable def HR (caps:List String):Tgt→Prop
  | .name x=>x∉caps
  | .pair x y=>x∉caps∧y∉caps
structure CompOK (sc csc:Scope) (caps:List String) (t:Tgt):Prop where
  outer:sc.kind= .function
  kind:csc.kind= .function
  names:∀x∈csc.names,x.2= .local→csc.names.lookup x.1=some .local
  nocell:∀y∈csc.names,y.2≠ .cell
  free:∀y∈csc.names,y.2= .free→sc.names.lookup y.1=some .cell
  capsOK:∀x∈caps,(Str.ofString x,NameKind.free)∈csc.names∧(BQ csc sc).names.lookup (Str.ofString x)=some .cell
  cells:∀y∈(BQ csc sc).names,y.2= .cell→(y.1,NameKind.free)∈csc.names
  nodup:(csc.names.map (·.1)).Nodup
  tgt:Mq (BQ csc sc) t
  apart:HR caps t
theorem GS:∀{caps:List String} {x:String} {v:SV},(Da caps ρ).lookup x=some v→x∈caps∧ρ.lookup x=some v
  | [],_,_,e=>by cases e
  | y::r,x,v,e=>by
    unfold Da at e
    rw[List.filterMap_cons] at e
    cases q:ρ.lookup y with
    | none=>
      rw[q] at e
      obtain⟨a,b⟩:=GS (caps:=r) e
      exact⟨List.mem_cons_of_mem _ a,b⟩
    | some u=>
      rw[q] at e
      simp only[Option.map_some] at e
      rw[List.lookup_cons] at e
      split at e
      · rename_i hxy; cases e
        have:=beq_iff_eq.mp hxy
        subst this
        exact⟨List.mem_cons_self,q⟩
      · obtain⟨a,b⟩:=GS (caps:=r) e
        exact⟨List.mem_cons_of_mem _ a,b⟩
theorem Tz {csc:Scope}{caps:List String}{t:Tgt}{C:Addr}(O:EnvOK sc env)(K:CompOK sc csc caps t)(F:FrameOK B env ρ φ h)(hn:h'.Ns C fun _=>none)(hC:h.get? C=none)(hCo:C∉own φ)(hCb:B.S.heap.get? C=none)
    (k:∀b o,h.get? b=some o→h'.get? b=some o):
    EnvOK (BQ csc sc) (compEnvC csc (ER env.cells csc.names) C env)∧FrameOK B (compEnvC csc (ER env.cells csc.names) C env) (Da caps ρ) φ h':=by
  have hrel:=Tx (csc:=csc) O
  have tk:∀b items,h.IsTuple b items→h'.IsTuple b items:=fun b items ⟨o,ho,r⟩=>⟨o,k b o ho,r⟩
  have cell:∀x,(x,NameKind.free)∈csc.names→∃c v,env.cells.lookup x=some c∧h.IsCell c v∧(ER env.cells csc.names).lookup x=some c:=fun x hx=>by
    obtain⟨c,v,p1,p2⟩:=F.cells x (by rw[Env.kindOf,O.scope]; exact K.free _ hx rfl)
    refine⟨c,v,p1,p2,JW (JE.mpr ⟨hx,by rw[p1]; rfl⟩) fun c' hc'=>?_⟩
    rw[(JE.mp hc').2,p1]; rfl
  have inEnv:∀x c,(x,c)∈ER env.cells csc.names→env.cells.lookup x=some c:=fun x c hm=>by
    obtain⟨p1,p2⟩:=JE.mp hm
    obtain⟨c',v,q1,_⟩:=cell x p1
    rw[p2,q1]; rfl
  have kc:∀c v,h.IsCell c v→h'.IsCell c v:=fun c v ⟨o,ho,hd⟩=>⟨o,k c o ho,hd⟩
  refine⟨⟨hrel,K.kind,O.globals,O.builtins⟩,⟨⟨_,hn,fun x v e=>?_⟩,fun x e=>?_,?_,fun x c hm=>?_,fun a ha=>?_,fun a ha=>?_⟩⟩
  · obtain⟨hx,hl⟩:=GS e
    obtain⟨m,_,hv⟩:=F.ns
    obtain⟨u,hu,hr⟩:=hv x v hl
    obtain⟨hf,hcl⟩:=K.capsOK x hx
    obtain⟨c,v',q1,q2,q3⟩:=cell _ hf
    refine⟨u,.inr ⟨?_,c,q3,?_⟩,hr.mono (fun _ _ q=>q) tk⟩
    · show(relabel csc env).names.lookup _=_
      rw[hrel]; exact hcl
    · have hk:env.kindOf (Str.ofString x)=some .cell:=by rw[Env.kindOf,O.scope]; exact K.free _ hf rfl
      rcases hu with⟨p1,_⟩ | ⟨_,c',p2,p3⟩
      · rw[hk] at p1; cases p1
      · rw[q1] at p2; cases p2
        exact kc _ _ p3
  · have:(BQ csc sc).names.lookup x=some .cell:=by rw[←hrel]; exact e
    have hm:=K.cells _ (Eu this) rfl
    obtain⟨c,v,q1,q2,q3⟩:=cell x hm
    exact⟨c,v,q3,kc _ _ q2⟩
  · show(ER env.cells csc.names).Pairwise _
    have h1:(ER env.cells csc.names).Pairwise fun x y=>x.1≠y.1:=by
      unfold ER
      rw[List.pairwise_reverse,List.pairwise_map]
      have h2:csc.names.Pairwise fun x y=>x.1≠y.1:=by
        have:=K.nodup
        rw[List.Nodup,List.pairwise_map] at this
        exact this
      exact(h2.filter _).imp fun q=>q.symm
    refine h1.imp_of_mem fun {x y} hx hy hne e=>hne ?_
    have e1:=Eu (inEnv x.1 x.2 hx)
    have e2:=Eu (inEnv y.1 y.2 hy)
    rw[e] at e1
    exact name_of_addr F.apart e1 e2
  · obtain⟨v,hv⟩:=F.alive x c (Eu (inEnv x c hm))
    exact⟨v,kc _ _ hv⟩
  · rcases List.mem_cons.mp ha with rfl | ha
    · exact hCo
    · obtain⟨p,hp,rfl⟩:=List.mem_map.mp ha
      exact F.notOwn _ (List.mem_cons_of_mem _ (List.mem_map.mpr ⟨_,Eu (inEnv p.1 p.2 hp),rfl⟩))
  · rcases List.mem_cons.mp ha with rfl | ha
    · exact hCb
    · obtain⟨p,hp,rfl⟩:=List.mem_map.mp ha
      exact F.above _ (List.mem_cons_of_mem _ (List.mem_map.mpr ⟨_,Eu (inEnv p.1 p.2 hp),rfl⟩))
end Mine
namespace Mine
open scoped Classical
open PySem PySem.W PySem.Calls PyProof.Rows
open Sem (wp)
variable {B:Base}{X Y:List Addr}{φ φ' φ1 φ2:Phi}{σ σ' σ1 σ₂:Hp}{h h' h1 h2:Heap}{s s' s1 s2:Shared}{n:Nat}{sc:Scope}{env:Env}{ρ ρ':Rho}{A:Around}{E:Value→Shared→Prop}
theorem Grow.out (G:Grow X φ σ h φ' σ' h'){a:Addr}(hx:a∉X)(ho:a∉own φ){o:Obj}(e:h.get? a=some o):h'.get? a=some o:=
  G.kept a o e hx fun l as hl hm=>(ho (BL hl hm)).elim
theorem Grow.list (G:Grow X φ σ h φ' σ' h'){a:Addr}{items:Array Value}(hx:a∉X)(ho:a∉own φ)(q:h.PlainList a items):h'.PlainList a items:=
  let ⟨o,e⟩:=q; ⟨o,G.out hx ho e⟩
theorem Ew {t:Tgt}{chk:Option (Nat×SObj)}{ts:List Tv}{m:Ev}{xs:List SV}{r:List SV×Hp}(h:Cu t chk ts m ρ xs σ=some r):Cj chk σ=true:=by
  cases xs with
  | nil=>exact gif h fun q _=>q
  | cons x xs=>exact gif h fun q _=>q
theorem II {a:Addr}{items:Array Value}(q:h.IsList a items):Dr [a] h:=fun b hb its p=>
  p.elim fun o p=>q.elim fun o' q=>Qr (q.2.1.symm.trans ((congrArg Obj.cls (Option.some.inj (q.1.symm.trans (List.mem_singleton.mp hb▸p.1)))).trans p.2.1))
theorem Kn {a:Addr}{m:Str→Option Value}(q:h.Ns a m):Dr [a] h:=fun b hb its=>List.mem_singleton.mp hb▸Ns.noTup q its
theorem FrameOK.weak (F:FrameOK B env ρ φ h)(e:∀x v,ρ'.lookup x=some v→ρ.lookup x=some v):FrameOK B env ρ' φ h:=by
  obtain⟨m,hn,hv⟩:=F.ns
  exact⟨⟨m,hn,fun x v q=>hv x v (e x v q)⟩,F.cells,F.apart,F.alive,F.notOwn,F.above⟩
theorem OZ {caps:List String}{t:Tgt}{v:SV}(ha:HR caps t)(hb:Ct t v (Da caps ρ) σ=some ρ'):
    ∀x u,(Da caps ρ).lookup x=some u→ρ'.lookup x=some u:=by
  intro x u e
  have hx:=(GS e).1
  cases t with
  | name y=>rw[←Option.some.inj hb,AK,if_neg (fun q:x=y=>ha (q▸hx))]; exact e
  | pair y z=>exact gmap hb fun p _ hb=>by rw[←hb,AK,if_neg (fun q:x=z=>ha.2 (q▸hx)),AK,if_neg (fun q:x=y=>ha.1 (q▸hx))]; exact e
theorem RV {D:Addr}(hs:Heap.SameBut D s.heap h')(hal:∃o,h'.get? D=some o):Grow [D] φ σ s.heap φ σ h':=by
  refine⟨⟨[],(List.append_nil _).symm,fun _=>Kf⟩,fun b o e hx _=>(hs.2 b (fun q=>hx (q▸List.mem_singleton_self _))).trans e,fun l kv n e=>⟨kv,n,e,Nat.le_refl _⟩,fun b o e=>?_⟩
  by_cases q:b=D
  · exact q▸hal
  · exact⟨o,(hs.2 b q).trans e⟩
theorem Ak.snoc {xs:List SV}{x:SV}{vs:List Value}{v:Value}(q:Ak φ h xs vs)(r:Al φ h x v):Ak φ h (xs ++ [x]) (vs ++ [v]):=
  q.append (Ak.cons'.mpr ⟨r,Ak.nil'.mpr rfl⟩)
theorem Ut {csc:Scope}{caps:List String}{t:Tgt}{te iter elt:Expr}{ifs:List Expr}{ts:List Tv}{m:Ev}{pos:Pos}{st:ItS}{it:Value}{C D:Addr}{cenv:Env}{vs:List SV}{ρ₀:Rho}
    {φ0:Phi} {σ0:Hp} {h0:Heap} {RR:Result→Shared→Prop}
    (hts:Ja B n sc ifs ts) (helt:Av B n sc elt m) (ht:EU sc t te) (htl:Mq sc t) (hap:HR caps t)
    (O:EnvOK sc cenv) (R:By A n) (hC:cenv.locals=C)
    (G:Grow (C::D::Y) φ0 σ0 h0 φ σ s.heap) (I:Inv B φ σ s) (F:FrameOK B cenv (Da caps ρ₀) φ s.heap) (hit:DL φ s.heap 0 it Y st) (hfit:HE st t)
    (hY:∀a,a∈Y→h0.get? a=none∧a∉own φ∧B.S.heap.get? a=none∧a∉Bx cenv) (hDY:D∉Y) (hDe:D∉Bx cenv) (hDo:D∉own φ) (hDb:B.S.heap.get? D=none) (hD:s.heap.PlainList D #[])
    (hlim:vs.length<lim) (hgo:Cu t st.chk ts m (Da caps ρ₀) st.all σ=some (vs,σ'))
    (hR:∀s' φ' items,Grow (C::D::Y) φ0 σ0 h0 φ' σ' s'.heap→Inv B φ' σ' s'→s'.heap.PlainList D items→Ak φ' s'.heap vs items.toList→(∃m,s'.heap.Ns C m)→C∉own φ'→D∉own φ'→RR (.ok .next) s'):
    codeAny (model B.prog B.w) A (.compLoop (.ListComp elt [⟨te,iter,ifs,0⟩] csc pos) 0 it (.ref D) cenv) RR s:=by
  have hCD:C≠D:=fun e=>hDe (e▸hC▸List.mem_cons_self)
  refine Tw (fun j s3=>∃k φ3 σ3 done rest items,j=st.all.length-k∧Grow (C::D::Y) φ0 σ0 h0 φ3 σ3 s3.heap∧Inv B φ3 σ3 s3∧FrameOK B cenv (Da caps ρ₀) φ3 s3.heap∧DL φ3 s3.heap k it Y st∧
    (∀a,a∈Y→a∉own φ3)∧D∉own φ3∧s3.heap.PlainList D items∧Ak φ3 s3.heap done items.toList∧Cu t st.chk ts m (Da caps ρ₀) (st.all.drop k) σ3=some (rest,σ')∧vs=done++rest) (fun j s3 J=>?_) st.all.length
    ⟨0,φ,σ, [],vs, #[],rfl,G,I,F,hit,fun a ha=>(hY a ha).2.1,hDo,hD,Ak.nil'.mpr rfl,hgo,rfl⟩
  obtain⟨k,φ3,σ3,done,rest,items,ej,G3,I3,F3,hit3,hO,hDo3,hD3,hv3,hgo3,hvs⟩:=J
  have hc:=Ew hgo3
  have hy:∀a,a∈Y→a∉own φ3∧B.S.heap.get? a=none:=fun a ha=>⟨hO a ha,(hY a ha).2.2.1⟩
  have hYe:∀a,a∈Bx cenv→a∉Y:=fun a ha q=>(hY a q).2.2.2 ha
  cases hd:st.all.drop k with
  | nil=>
    rw[hd] at hgo3
    refine gif hgo3 fun _ hgo3=>OW R.handled I3 hit3 hc hy (List.getElem?_eq_none (List.drop_eq_nil_iff.mp hd)) fun h' kk I4=>?_
    have p:=pinj hgo3
    have F4:=F3.but kk hit3.noTups hYe
    refine hR _ φ3 items (p.2▸G3.after' kk fun a ha=>(hY a ha).1) (p.2▸I4) (hD3.elim fun o ho=>⟨o,kk D _ hDY ho⟩) ?_ (hC▸F4.ns.elim fun m q=>⟨m,q.1⟩) (hC▸F4.notOwn _ List.mem_cons_self) hDo3
    rw[hvs, ←p.1,List.append_nil]
    exact hv3.mono (fun _ _ q=>q) fun b its q=>q.elim fun o q=>⟨o,kk b o (fun e=>hit3.noTups b e its ⟨o,q⟩) q.1,q.2⟩
  | cons x r=>
    obtain⟨hx,hr,hlt⟩:=Mp hd
    rw[hd] at hgo3
    refine gif hgo3 fun _ hgo3=>CH hgo3 fun ρ4 hbt hgo3=>AY hgo3 fun c σ7 hm7 hgo3=>OV I3 hit3 hc hy ht hfit hx fun v s4 q=>wpAny_mono q (fun _ s5 q=>?_) fun _ _ q=>q
    obtain⟨G5,I5,r5,hit5⟩:=q
    have F5:FrameOK B cenv (Da caps ρ₀) φ3 s5.heap:=F3.grow I3 G5 hit3.noTups hYe
    have hD5:=G5.list hDY hDo3 hD3
    have hv5:=G5.vreps I3 hit3.noTups hv3
    refine Tu O R.handled I5 F5 ht htl r5 hbt fun s6 G6 I6 F6=>?_
    rw[hC] at G6
    have nC:Dr [C] s5.heap:=hC▸F5.ns.elim fun m q=>Kn q.1
    have hCo3:C∉own φ3:=hC▸F5.notOwn _ List.mem_cons_self
    have hCe:C∈Bx cenv:=hC▸List.mem_cons_self
    have hit6:DL φ3 s6.heap (k+1) it Y st:=hit5.stay I5 G6 nC (fun a ha=>List.mem_singleton.mp ha▸hCo3)
      (fun a ha=>⟨fun q=>hYe C hCe (List.mem_singleton.mp q▸ha),hO a ha⟩) hc hc
    have hD6:=G6.list (fun q=>hCD (List.mem_singleton.mp q).symm) hDo3 hD5
    have hv6:=G6.vreps I5 nC hv5
    have G6':=(G3.trans (G5.weaken (Y:=C::D::Y) fun a ha=>List.mem_cons_of_mem _ (List.mem_cons_of_mem _ ha))).trans (G6.weaken (Y:=C::D::Y) fun a ha=>List.mem_singleton.mp ha▸List.mem_cons_self)
    refine wpAny_mono (RU hts O R I6 F6 hm7) (fun ok s7 q=>?_) fun _ _ q=>q
    obtain⟨eb,φ7,G7,I7⟩:=q
    rw[eb]
    have lt:=ej▸Nat.sub_lt_sub_left hlt (Nat.lt_succ_self k)
    cases c with
    | true=>
      refine AY hgo3 fun y σ8 hm8 hgo3=>AY hgo3 fun vs9 σ9 hm9 hgo3=>helt.run O R I7 (F6.grow' I6 G7) hm8 fun w s8 φ8 G8 I8 r8 F8=>?_
      have p:=pinj hgo3
      rw[p.2] at hm9
      have G78:=G7.trans G8
      have hD8:=G78.list List.not_mem_nil hDo3 hD6
      have hv8:=G78.vreps I6 Bc hv6
      have hsz:items.size≤sizeLine:=by
        refine Nat.le_trans ?_ (Nat.le_trans (Nat.le_of_lt hlim) Db)
        rw[hvs,List.length_append]
        exact hv8.length▸Nat.le_add_right _ _
      refine wpAny_list_append_plain hD8 (fun h' hl' hs'=>?_) hsz
      have G9:Grow [D] φ8 σ8 s8.heap φ8 σ8 h':=RV hs' (hl'.elim fun o ho=>⟨_,ho⟩)
      have hDo8:D∉own φ8:=hD6.elim fun o ho=>G78.notOwn hDo3 ho
      have nD8:=II hD8.isList
      have kk:=BI hs'
      have I9:Inv B φ8 σ8 { s8 with heap:=h' }:=Lb I8 (Y:= [D]) (fun a ha=>List.mem_singleton.mp ha▸⟨hDo8,hDb⟩) nD8 kk (t:=s8.toks)
      have F9:FrameOK B cenv ρ4 φ8 h':=F8.but kk nD8 fun a ha q=>hDe (List.mem_singleton.mp q▸ha)
      have Gc:Grow [D] φ3 σ3 s6.heap φ8 σ8 h':=G78.any.trans G9
      refine⟨st.all.length-(k+1),lt,k+1,φ8,σ8,done ++ [y],vs9,items.push w,rfl,G6'.trans (Gc.weaken fun a ha=>List.mem_singleton.mp ha▸List.mem_cons_of_mem _ List.mem_cons_self),I9,
        F9.weak (OZ hap hbt),hit6.stay I6 Gc (II hD6.isList) (fun a ha=>List.mem_singleton.mp ha▸hDo3) (fun a ha=>⟨fun q=>hDY (List.mem_singleton.mp q▸ha),hO a ha⟩) hc (Ew hm9),
        fun a ha=>(hit6.alive a ha).elim fun o ho=>G78.notOwn (hO a ha) ho,hDo8,hl',?_,hr▸hm9,by rw[hvs, ←p.1,List.append_assoc]; rfl⟩
      rw[Array.toList_push]
      exact(G9.vreps I8 nD8 hv8).snoc (G9.vrep I8 nD8 r8)
    | false=>
      exact⟨st.all.length-(k+1),lt,k+1,φ7,σ7,done,rest,items,rfl,G6'.trans G7.any,I7,(F6.grow' I6 G7).weak (OZ hap hbt),
        hit6.stay I6 G7 Bc (fun a ha=>nomatch ha) (fun a ha=>⟨List.not_mem_nil,hO a ha⟩) hc (Ew hgo3),fun a ha=>(hit6.alive a ha).elim fun o ho=>G7.notOwn (hO a ha) ho,hD6.elim fun o ho=>G7.notOwn hDo3 ho,G7.list List.not_mem_nil hDo3 hD6,G7.vreps I6 Bc hv6,hr▸hgo3,hvs⟩
end Mine
namespace Mine
open scoped Classical
open PySem PySem.W PySem.Calls PyProof.Rows
open Sem (wp)
variable {B:Base}{X Y:List Addr}{φ φ' φ1 φ2 φ0:Phi}{σ σ' σ1 σ₂ σ0:Hp}{h h' h₁ h₂:Heap}{s s' s1 s2 s0:Shared}{n:Nat}{sc:Scope}{env:Env}{ρ ρ':Rho}{A:Around}{E:Value→Shared→Prop}
theorem Ng {csc:Scope}{caps:List String}{t:Tgt}{te iter elt:Expr}{ifs:List Expr}{ts:List Tv}{m:Ev}{pos:Pos}{st:ItS}{it:Value}{vs:List SV}{RR:Value→Addr→Result→Shared→Prop}
    (O:EnvOK sc env) (K:CompOK sc csc caps t) (ht:EU (BQ csc sc) t te) (hts:Ja B n (BQ csc sc) ifs ts) (helt:Av B n (BQ csc sc) elt m) (R:By A n)
    (I0:Inv B φ0 σ0 s0) (F0:FrameOK B env ρ φ0 s0.heap) (G:Grow [] φ0 σ0 s0.heap φ σ s.heap) (I:Inv B φ σ s) (hit:DL φ s.heap 0 it Y st) (hfit:HE st t) (hY:∀a,a∈Y→s0.heap.get? a=none∧a∉own φ)
    (hlim:vs.length<lim) (hgo:Cu t st.chk ts m (Da caps ρ) st.all σ=some (vs,σ'))
    (hR:∀D C s' φ' items,D≠C→s0.heap.get? D=none→s0.heap.get? C=none→Grow (C::D::Y) φ0 σ0 s0.heap φ' σ' s'.heap→Inv B φ' σ' s'→s'.heap.PlainList D items→Ak φ' s'.heap vs items.toList→(∃m,s'.heap.Ns C m)→
      C∉own φ'→D∉own φ'→(D==sysModules)=false→RR (.ref D) C (.ok .next) s'):
    wpAny (model B.prog B.w) A (newList []) (fun acc s3=>wpAny (model B.prog B.w) A (newFunctionEnv csc env.globals (ER env.cells csc.names) [] env.qual none .none (some env)) (fun cenv s4=>
      codeAny (model B.prog B.w) A (.compStart (.ListComp elt [⟨te,iter,ifs,0⟩] csc pos) 0 it acc { cenv with scope:=relabel csc env }) (RR acc cenv.locals) s4) E s3) E s:=by
  refine wpAny_newObj_type (wpAny_newFunctionEnv K.nocell (fun y hy=>nomatch hy) (fun h₁ hns1 hsb1=>?_) K.kind)
  dsimp only at hns1 hsb1 ⊢
  generalize hH2:s.heap.push { cls:= .type "list",dict:=none,data:= .seq ([]:List Value).toArray }=H2 at hns1 hsb1 ⊢
  have hC:H2.objs.size=s.heap.objs.size+1:=by rw[←hH2,Heap.size_push]
  have hDC:s.heap.objs.size≠H2.objs.size:=by rw[hC]; exact Nat.ne_of_lt (Nat.lt_succ_self _)
  have fresh:∀a,s.heap.objs.size≤a→s.heap.get? a=none:=fun a ha=>by
    cases e:s.heap.get? a with
    | none=>rfl
    | some o'=>exact absurd (Heap.lt_size e) (Nat.not_lt.mpr ha)
  have fC:=fresh H2.objs.size (by rw[hC]; exact Nat.le_succ _)
  have fD:=fresh s.heap.objs.size (Nat.le_refl _)
  have old:∀b o,s.heap.get? b=some o→h₁.get? b=some o:=fun b o e=>hsb1.extBut b o (fun q=>Bs e (q▸fC)) (Heap.get?_push_of_some _ (hH2▸Heap.get?_push_of_some _ e))
  have hD:h₁.PlainList s.heap.objs.size #[]:=⟨_,hsb1.extBut _ _ hDC (Heap.get?_push_of_some _ (hH2▸Heap.get?_push_size _ rfl))⟩
  have notO:∀a,s.heap.get? a=none→a∉own φ:=fun a ha q=>(Hb I q).elim fun o ho=>Bs ho ha
  have F:=F0.grow' I0 G
  obtain⟨O1,F1⟩:=Tz (h':=h₁) (C:=H2.objs.size) O K F (by simpa using hns1) fC (notO _ fC) (Dx I fC) old
  have hal:∀a,a∈Bx (compEnvC csc (ER env.cells csc.names) H2.objs.size env)→a=H2.objs.size∨∃o,s0.heap.get? a=some o:=fun a ha=>(List.mem_cons.mp ha).imp id fun ha=>by
    obtain⟨p,hp,e⟩:=List.mem_map.mp ha
    have q:=JE.mp (show(p.1,p.2)∈ER env.cells csc.names from hp)
    obtain⟨c,v,p1,o,ho,_⟩:=F0.cells p.1 (by rw[Env.kindOf,O.scope]; exact K.free _ q.1 rfl)
    exact⟨o,e▸q.2▸p1▸ho⟩
  have hne:∀a,s.heap.get? a=none→∀o,s0.heap.get? a≠some o:=fun a ha o e=>(G.alive a o e).elim fun o' ho'=>Bs ho' ha
  have hYal:=hit.alive
  have loop:∀s3:Shared,s3={ s with heap:=h₁,toks:=s.toks+([]:List (Str×Value)).length }→
      codeAny (model B.prog B.w) A (.compLoop (.ListComp elt [⟨te,iter,ifs,0⟩] csc pos) 0 it (.ref s.heap.objs.size) (compEnvC csc (ER env.cells csc.names) H2.objs.size env)) (RR (.ref s.heap.objs.size) H2.objs.size) s3:=by
    rintro s3 rfl
    have I1:Inv B φ σ { s with heap:=h₁,toks:=s.toks+([]:List (Str×Value)).length }:=I.keep old rfl rfl
    have G1:Grow [] φ σ s.heap φ σ h₁:= .keep old
    refine Ut (Y:=Y) (st:=st) (s:={ s with heap:=h₁,toks:=s.toks+([]:List (Str×Value)).length }) (ρ₀:=ρ) hts helt ht K.tgt K.apart O1 R rfl (G.trans G1).any I1 F1 ?_ hfit (fun a ha=>?_) (fun q=>?_) (fun q=>?_) (notO _ fD) (Dx I fD) hD hlim hgo
      fun s' φ' items G' I' hl hv hn hCo hDo=>hR _ _ s' φ' items hDC ?_ ?_ G' I' hl hv hn hCo hDo (I.newMods (Nat.le_refl _))
    · exact hit.stay I G1 Bc (fun a ha=>nomatch ha) (fun a ha=>⟨List.not_mem_nil,(hY a ha).2⟩) (Ew hgo) (Ew hgo)
    · exact⟨(hY a ha).1,(hY a ha).2,Dx I0 (hY a ha).1,fun q=>(hal a q).elim (fun e=>(hYal _ ha).elim fun o ho=>Bs ho (e▸fC)) fun q=>q.elim fun o ho=>Bs ho (hY a ha).1⟩
    · exact(hYal _ q).elim fun o ho=>Bs ho fD
    · exact(hal _ q).elim hDC fun q=>q.elim fun o ho=>hne _ fD o ho
    · exact G.fresh fD
    · exact G.fresh fC
  refine codeAny_compStart_list (loop _ rfl) ?_
  have hit1:DL φ h₁ 0 it Y st:=hit.stay I (.keep old:Grow [] φ σ s.heap φ σ h₁) Bc (fun a ha=>nomatch ha) (fun a ha=>⟨List.not_mem_nil,(hY a ha).2⟩) (Ew hgo) (Ew hgo)
  exact hit1.self (s:={ s with heap:=h₁,toks:=s.toks+([]:List (Str×Value)).length }) (loop _ rfl)
theorem Nh {C D:Addr}{vs:List SV}{items:Array Value}(I0:Inv B φ0 σ0 s0)(G:Grow (C::D::Y) φ0 σ0 s0.heap φ σ s.heap)(I:Inv B φ σ s)(fD:s0.heap.get? D=none)(hD:s.heap.PlainList D items)(hv:Ak φ s.heap vs items.toList)
    (hDo:D∉own φ) (hDm:(D==sysModules)=false) (hlim:vs.length<lim):Grow (C::D::Y) φ0 σ0 s0.heap (φ ++ [[D]]) (σ ++ [.list vs]) s.heap∧Inv B (φ ++ [[D]]) (σ ++ [.list vs]) s∧Al (φ ++ [[D]]) s.heap (.loc σ.length) (.ref D):=by
  exact⟨G.adopt (fun _ _ _ e=>e) (fun a ha=>List.mem_singleton.mp ha▸fD) (fun a ha=>List.mem_singleton.mp ha▸hD.elim fun o ho=>⟨_,ho⟩),
    I.adopt (fun _ _ _ e=>e) (fun a ha=>List.mem_singleton.mp ha▸hDo) (fun a ha=>List.mem_singleton.mp ha▸Dx I0 fD) (II hD.isList) (List.pairwise_singleton _ _)
      ⟨D,items,rfl,hD,hv.mono (fun _ _ q=>D5 q) (fun _ _ q=>q),Nat.le_of_lt hlim⟩ (fun a ha=>List.mem_singleton.mp ha▸hDm),D,Jt I.len,rfl⟩
theorem LA {C D:Addr}(h1:C∉own φ)(h2:D≠C):C∉own (φ ++ [[D]]):=by
  rw[DT,HD,List.mem_append]
  exact fun q=>q.elim h1 fun q=>h2 (List.mem_singleton.mp q).symm
theorem QC {caps:List String}{t:Tgt}{ts:List Tv}{src:Src}{m:Ev}{x:SV}{P:Prop}(h:Bb caps t src ts m ρ σ=some (x,σ'))
    (k:∀xs chk σ1 vs σ₂,src ρ σ=some ((xs,chk),σ1)→Cu t chk ts m (Da caps ρ) xs σ1=some (vs,σ₂)→vs.length<lim→some (SV.loc σ₂.length,σ₂ ++ [.list vs])=some (x,σ')→P):P:=
  AY h fun p σ1 hm h=>AY h fun vs σ₂ hgo h=>gif h fun hlim h=>k p.1 p.2 σ1 vs σ₂ hm hgo hlim h
theorem Sr {csc:Scope}{caps:List String}{t:Tgt}(O:EnvOK sc env)(K:CompOK sc csc caps t)(F:FrameOK B env ρ φ h):closureFor csc env=pure (ER env.cells csc.names):=
  Ty fun p hp hf=>(F.cells p.1 (by rw[Env.kindOf,O.scope]; exact K.free _ hp hf)).elim fun c q=>q.elim fun v q=>⟨c,q.1⟩
theorem Bk {csc:Scope}{caps:List String}{t:Tgt}{te iter elt:Expr}{ifs:List Expr}{ts:List Tv}{src:Src}{m:Ev}{pos:Pos}
    (K:CompOK sc csc caps t) (ht:EU (BQ csc sc) t te) (hsrc:Mo B n sc iter src t) (hts:Ja B n (BQ csc sc) ifs ts) (helt:Av B n (BQ csc sc) elt m)
    (hs:∀env x,foldedSetIterable iter env x=pure x:=by intro _ _; rfl):Av B n sc (.ListComp elt [⟨te,iter,ifs,0⟩] csc pos) (Bb caps t src ts m):=by
  intro A E env s φ σ ρ x σ' O R I F h
  refine QC h fun xs chk σ1 vs σ₂ hm hgo hlim h=>spair h ?_
  rw[eval_ListComp]
  refine wpAny_comprehension_free (use:=none) rfl (hs env) (Sr O K F) K.kind K.names (wpAny_mono (hsrc A E env s φ σ ρ xs chk σ1 O R I F hm) (fun xv s1 q=>wpAny_mono q (fun it s2 q=>?_) fun _ _ e=>e) fun _ _ e=>e)
  obtain⟨st,φ1,Y,e1,e2,hfit,G1,I1,hit,hY⟩:=q
  rw[←e1, ←e2] at hgo
  refine Ng (RR:=fun acc C=>compPost (model B.prog B.w) A E none (BO B [] φ σ s.heap (.loc σ₂.length) (σ₂ ++ [.list vs])) acc C) O K ht hts helt R I F G1 I1 hit hfit hY hlim hgo ?_
  intro D C s' φ' items hDC fD fC G' I' hl hv hn hCo hDo hDm
  obtain⟨m',hn'⟩:=hn
  refine⟨m',hn',fun h' hs'=>?_⟩
  obtain⟨G2,I2,r2⟩:=Nh I G' I' fD hl hv hDo hDm hlim
  have kk:=BI hs'
  have nC:=Kn hn'
  exact⟨φ' ++ [[D]],(G2.after' kk fun a ha=>List.mem_singleton.mp ha▸fC).forget fun a ha=> .inr ((List.mem_cons.mp ha).elim (fun e=>e▸fC) fun ha=>(List.mem_cons.mp ha).elim (fun e=>e▸fD) fun ha=>(hY a ha).1),
    Lb I2 (fun a ha=>List.mem_singleton.mp ha▸⟨LA hCo hDC,Dx I fC⟩) nC kk (t:=s'.toks),r2.mono (fun _ _ q=>q) fun b its q=>q.elim fun o q=>⟨o,kk b o (fun e=>nC b e its ⟨o,q⟩) q.1,q.2⟩⟩
theorem JX {csc:Scope}{caps:List String}{t:Tgt}{te iter elt:Expr}{ifs:List Expr}{ts:List Tv}{src:Src}{m:Ev}{pos py spos:Pos}{y:String}
    (K:CompOK sc csc caps t) (ht:EU (BQ csc sc) t te) (hsrc:Mo B n sc iter src t) (hts:Ja B n (BQ csc sc) ifs ts) (helt:Av B n (BQ csc sc) elt m)
    (hy:sc.names.lookup (Str.ofString y)=some .local∨sc.names.lookup (Str.ofString y)=some .cell)
    (hsw:∀env:Env,env.scope=sc→swapsWith (.ListComp elt [⟨te,iter,ifs,0⟩] csc pos) (some (.Name (Str.ofString y) py)) spos.line env=pure true)
    (hs:∀env x,foldedSetIterable iter env x=pure x:=by intro _ _; rfl):Ec B n sc (.Assign [.Name (Str.ofString y) py] (.ListComp elt [⟨te,iter,ifs,0⟩] csc pos) spos) (Bi (.name y) (Bb caps t src ts m)):=by
  intro A E env s φ σ ρ f ρ' σ' O R I F h
  refine AY h fun x σ3 hx h=>QC hx fun xs chk σ1 vs σ₂ hm hgo hlim hx=>?_
  have p:=pinj hx
  rw[←p.1, ←p.2] at h
  refine strip h ?_
  rw[exec_Assign_Name_used _ _ _ _ (hsw env O.scope)]
  refine wpAny_bind (wpAny_standAt (wpAny_bind ?_))
  show wpAny _ A (do let _ ←comprehension (.ListComp elt [⟨te,iter,ifs,0⟩] csc pos) csc env _ (newList []) false (eval iter env) (some (assign (.Name (Str.ofString y) py) env))) _ _ s
  refine wpAny_bind (wpAny_mono (wpAny_comprehension_free (use:=some (assign (.Name (Str.ofString y) py) env)) (Q:=fun _ s'=>Gd B env φ σ s.heap .next (ρ.put y (.loc σ₂.length)) (σ₂ ++ [.list vs]) .next s') rfl (hs env) (Sr O K F) K.kind K.names
    (wpAny_mono (hsrc A E env s φ σ ρ xs chk σ1 O R I F hm) (fun xv s1 q=>wpAny_mono q (fun it s2 q=>?_) fun _ _ e=>e) fun _ _ e=>e)) (fun _ s' hq=>wpAny_pure (wpAny_pure hq)) fun _ _ e=>e)
  obtain⟨st,φ1,Y,e1,e2,hfit,G1,I1,hit,hY⟩:=q
  rw[←e1, ←e2] at hgo
  refine Ng (RR:=fun acc C=>compPost (model B.prog B.w) A E (some (assign (.Name (Str.ofString y) py) env)) (fun _ s'=>Gd B env φ σ s.heap .next (ρ.put y (.loc σ₂.length)) (σ₂ ++ [.list vs]) .next s') acc C) O K ht hts helt R I F G1 I1 hit hfit hY hlim hgo ?_
  intro D C s' φ' items hDC fD fC G' I' hl hv hn hCo hDo hDm
  obtain⟨m',hn'⟩:=hn
  obtain⟨G2,I2,r2⟩:=Nh I G' I' fD hl hv hDo hDm hlim
  have hfr:∀a,a∈C::D::Y→s.heap.get? a=none:=fun a ha=>(List.mem_cons.mp ha).elim (fun e=>e▸fC) fun ha=>(List.mem_cons.mp ha).elim (fun e=>e▸fD) fun ha=>(hY a ha).1
  have hCe:∀a,a∈Bx env→a∉C::D::Y:=fun a ha q=>(F.envAlive ha).elim fun o ho=>Bs ho (hfr a q)
  have F2:FrameOK B env ρ (φ' ++ [[D]]) s'.heap:=F.grow I G2 (fun b hb its q=>q.elim fun o q=>Bs q.1 (hfr b hb)) hCe
  have hCo2:=LA hCo hDC
  show wpAny _ A (assign (.Name (Str.ofString y) py) env (.ref D)) _ _ _
  refine wpAny_assign_Name (GA O I2 F2 r2 hy fun s'' G3 I3 F3 _=>?_)
  have hn'':s''.heap.Ns C m':=hn'.elim fun o q=>q.elim fun es q=>q.elim fun ep q=>⟨o,es,ep,G3.out (fun q=>hCe C q List.mem_cons_self) hCo2 q.1,q.2⟩
  refine⟨m',hn'',fun h' hs'=>?_⟩
  have kk:=BI hs'
  have nC:=Kn hn''
  have G4:Grow (Bx env) φ σ s.heap (φ' ++ [[D]]) (σ₂ ++ [.list vs]) s''.heap:=(G2.forget fun a ha=> .inr (hfr a ha)).trans G3
  exact⟨φ' ++ [[D]],G4.after' kk fun a ha=>List.mem_singleton.mp ha▸fC,Lb I3 (fun a ha=>List.mem_singleton.mp ha▸⟨hCo2,Dx I fC⟩) nC kk (t:=s''.toks),
    F3.but kk nC fun a ha q=>hCe a ha (List.mem_singleton.mp q▸List.mem_cons_self),rfl⟩
end Mine
namespace Mine
open scoped Classical
open PySem PySem.W PySem.Calls PyProof.Rows
open Sem (wp)
variable {B:Base}{X Y:List Addr}{φ φ' φ1 φ2 φ0:Phi}{σ σ' σ1 σ₂ σ0:Hp}{h h' h₁ h₂:Heap}{s s' s1 s2 s0:Shared}{n:Nat}{sc:Scope}{env:Env}{ρ ρ':Rho}{A:Around}{E:Value→Shared→Prop}
noncomputable def TB1 (B:Base)(fv:Value)(f:SV→Hp→Option (SV×Hp)):Prop:=
  ∀(A:Around) (E:Value→Shared→Prop) (s:Shared) (φ:Phi) (σ:Hp) (x:SV) (v:Value) (y:SV) (σ':Hp),By A 0→Inv B φ σ s→Al φ s.heap x v→f x σ=some (y,σ')→
    wpAny (model B.prog B.w) A (call fv [v]) (BO B [] φ σ s.heap y σ') E s
theorem By.zero (r:By A n):By A 0:=⟨Nat.lt_of_le_of_lt (Nat.add_le_add_right (Nat.add_le_add_left (Nat.zero_le _) _) _) r.1,Nat.lt_of_le_of_lt (Nat.add_le_add_right (Nat.add_le_add_left (Nat.zero_le _) _) _) r.2.1,r.2.2⟩
theorem E4 {x:String}{fv:Value}{f:SV→Hp→Option (SV×Hp)}{e:Expr}{m:Ev}{np pos:Pos}(ok:BuiltinOK B sc x fv)(hf:Tt fv)(hc:TB1 B fv f)(he:Av B n sc e m)
    (hs:Cl e=true:=by rfl) (hst:∀env pos,(backTo pos (starEach [e] env)).any (·.1)=false:=by intro _ _; rfl):
    Av B n sc (.Call (.Name (Str.ofString x) np) [e] [] pos) (Ea m f):=
  fun A E env s φ σ ρ y σ' O R I F h=>AY h fun v σ1 hm h=>Ld ok hf (Ac he Ad hs) O R I F (HG hm) hst fun vs s1 q=>
    q.elim fun φ1 q=>(FM q.2.2).elim fun u r=>r.1▸CP q.1 (hc A E s1 φ1 σ1 v u y σ' R.zero q.2.1 r.2 h)
theorem QD {d:Addr}{es:Array DictEntry}{ep:Nat}{Q:Value→Shared→Prop}(hd:(d==sysModules)=false)(hm:BM s.heap d es ep)(hfit:(es.size:Int)<2^63)
    (h:Q (.int es.size (s.toks+1)) { s with toks:=s.toks+1+1 }):wpAny (model B.prog B.w) A (call (.builtin "len") [.ref d]) Q E s:=by
  refine Calls.call_function_entry kind_len plain_len entry_len (args_len1 _) ?_
  unfold Builtin.«len»
  refine wpAny_bind (m:=oneArg "len" _) (wpAny_pure ?_)
  refine wpAny_bind (m:=callSpecial? (.ref d) (Str.ofString "__len__")) (wpAny_callSpecial?_slot (name:=Str.ofString "__len__") hm.typeIs PySem.F.slot_dict_len
    (wpAny_call_entry PySem.F.slot_dict_len hm.typeIs PySem.F.entry_dict_len ?_ (PySem.F.args_dict_len_1 _)))
  obtain⟨o,ho,hc,hdat⟩:=hm
  show wpAny _ _ (dictSize d >>= _) _ _ s
  unfold dictSize
  refine wpAny_bind (wpAny_bind (wpAny_dictEntries ho hdat (wpAny_pure ?_)))
  show wpAny _ _ (Builtin.Dict.pendingCount d >>= _) _ _ s
  refine wpAny_bind (wpAny_pendingCount_other hd ?_)
  refine wpAny_bind (wpAny_mkInt (wpAny_pure ⟨_,rfl,?_⟩))
  rw[Nat.add_zero]
  refine wpAny_bind (wpAny_holding (wpAny_pure ?_))
  refine wpAny_bind (wpAny_letGo ?_)
  show wpAny _ _ (if((es.size:Nat):Int)<0 then _ else _) _ _ _
  rw[if_neg (by omega)]
  show wpAny _ _ (if((es.size:Nat):Int)≥2^63 then _ else _) _ _ _
  rw[if_neg (by omega)]
  exact wpAny_bind (wpAny_mkInt (wpAny_pure ⟨_,rfl,h⟩))
theorem Xm:TB1 B (.builtin "len") fun v σ=>(P9 v σ).map fun n=>(.int n,σ):=by
  intro A E s φ σ x v y σ' R I r h
  refine gmap h fun k hk hy=>spair (congrArg some hy) ((RB hk).elim fun xs q=>?_)
  rw[←q.2]
  refine Iz q.1 (fun l ex hl=>?_) fun l kvs ver ex hl e=>?_
  · obtain⟨a,items,ev,hφ,hi,hv,hz⟩:=I.list_at hl (ex▸r)
    have hlen:xs.length=items.size:=hv.length
    rw[ev,hlen]
    exact call_len_list hi (by have:=hlen▸hz; unfold lim at this; omega) (BS I ⟨_,rfl⟩)
  · obtain⟨a,ev,hφ,hd,hz⟩:=I.dict_at hl (ex▸r)
    obtain⟨es,ep,hR,h1,h2⟩:=hd.raw
    have hlen:xs.length=es.size:=(e▸h1.length).trans (List.length_map ..)
    have hz:es.size≤lim:=hlen▸e▸Nat.le_trans (Nat.le_of_eq (List.length_map ..)) hz
    rw[ev,hlen]
    exact QD (I.mods a (BL hφ List.mem_cons_self)) hR (by unfold lim at hz; omega) (BS I ⟨_,rfl⟩)
theorem BZ {e:Expr}{m:Ev}{np pos:Pos}(ok:BuiltinOK B sc "len" (.builtin "len"))(he:Av B n sc e m)
    (hs:Cl e=true:=by rfl) (hst:∀env pos,(backTo pos (starEach [e] env)).any (·.1)=false:=by intro _ _; rfl):
    Av B n sc (.Call (.Name (Str.ofString "len") np) [e] [] pos) (CD m):=E4 ok (.inr ⟨_,rfl⟩) Xm he hs hst
end Mine
namespace Mine
open scoped Classical
open PySem PySem.W PySem.Calls PyProof.Rows
open Sem (wp)
variable {B:Base}{X Y:List Addr}{φ φ' φ1 φ2 φ0:Phi}{σ σ' σ1 σ₂ σ0:Hp}{h h' h₁ h₂:Heap}{s s' s1 s2 s0:Shared}{n:Nat}{sc:Scope}{env:Env}{ρ ρ':Rho}{A:Around}{E:Value→Shared→Prop}
theorem BM.at' {d:Addr}{es:Array DictEntry}{ep:Nat}(x:BM h d es ep)(e:∀o,h.get? d=some o→h'.get? d=some o):BM h' d es ep:=let ⟨o,ho,r⟩:=x; ⟨o,e o ho,r⟩
theorem Uu {I d:Addr}{es:Array DictEntry}{ep:Nat}(hh:A.handled=none)(hne:d≠I):
    Walks B.prog B.w A I [I,d] [I] es.size (fun i v=>∃hi:i<es.size,v=es[i].key) (fun i h=>h.IsKeyIter I d i es.size ep∧BM h d es ep) where
  sub:=fun b hb=>by simp at hb; simp[hb]
  frame:=fun _ _ _ st hk=>⟨st.1.at fun o e=>hk I (by simp) o e,st.2.at' fun o e=>hk d (by simp) o e⟩
  item:=fun i s Q E hi st hQ=>by
    refine Qz st.1 st.2 hi fun h' hit' hs'=>?_
    exact hQ _ h' s.toks ⟨hi,rfl⟩ ⟨hit',st.2.at' fun o e=>hs'.extBut d o hne e⟩ fun b o hb e=>hs'.extBut b o (fun h=>hb (by simp[h])) e
  done:=fun s Q E st hQ=>Sp hh st.1 st.2 (Nat.le_refl _) fun h' he'=>hQ h' s.toks fun b o hb e=>he' b o (fun h=>hb (by simp[h])) e
  self:=fun _ _ _ _ st hQ=>wpAny_pyIter_keyiter st.1 hQ
theorem BM.lt {d:Addr}{es:Array DictEntry}{ep:Nat}(x:BM h d es ep):d<h.objs.size:=let ⟨_,ho,_⟩:=x; Heap.lt_size ho
theorem Su {d:Addr}{es:Array DictEntry}{ep:Nat}(lo:(d==sysModules)=false):KdlSrc B.prog B.w "dict" d d es.size (fun i v=>∃hi:i<es.size,v=es[i].key) (fun h=>BM h d es ep) where
  type:=fun _ hm=>hm.typeIs
  there:=fun _ hm=>⟨hm.lt,hm.lt⟩
  keep:=fun _ _ hm hk=>hm.at' fun o e=>hk d (.inl rfl) o e
  notList:=by decide
  notTuple:=by decide
  hint:=fun _ _ _ _ hm hq=>kdl_hint_dict hm.typeIs hq
  iter:=fun _ _ hh hm=>⟨_,_,(fun _ _ hq=>Qy lo hm hq),Uu hh (Nat.ne_of_lt hm.lt),⟨⟨_,Heap.get?_push_size _ rfl,rfl,rfl⟩,hm.at' fun o e=>Ax _ _ _ e⟩⟩
theorem Fu {a:Addr}{xs:List SV}{items:Array Value}(I:Inv B φ σ s)(k:∀b o,s.heap.get? b=some o→s'.heap.get? b=some o)(ha:s.heap.objs.size≤a)(hl:s'.heap.PlainList a items)
    (hv:Ak φ s'.heap xs items.toList) (hlim:xs.length≤lim) (hg:s'.gens=s.gens:=by rfl) (hos:s'.os=s.os:=by rfl):BO B X φ σ s.heap (.loc σ.length) (σ ++ [.list xs]) (.ref a) s':=by
  have hn:s.heap.get? a=none:=by
    cases e:s.heap.get? a with
    | none=>rfl
    | some o=>exact absurd (Heap.lt_size e) (Nat.not_lt.mpr ha)
  exact Ig (a:=a) (r:= []) I k (fun b hb=>List.mem_singleton.mp hb▸hn) (List.pairwise_singleton _ _) ⟨a,items,rfl,hl,hv.mono (fun _ _ q=>D5 q) (fun _ _ q=>q),hlim⟩ rfl
    (fun b hb=>List.mem_singleton.mp hb▸ha) hg hos
theorem Wz:TB1 B (.type "list") fun v σ=>BP (Ee v σ) fun xs=>newObj (.list xs) σ:=by
  intro A E s φ σ x v y σ' R I r h
  refine CH h fun xs hx h=>spair h (Iz hx (fun l ex hl=>?_) fun l kvs ver ex hl e=>?_)
  · obtain⟨a,items,ev,hφ,hi,hv,hz⟩:=I.list_at hl (ex▸r)
    obtain⟨o,ho,hc,k,hd⟩:=hi
    have hlen:xs.length=items.size:=hv.length
    rw[ev]
    exact call_list_seq a (.inl rfl) ho hc hd (fun h' c' kk hn=>Fu I kk (Nat.le_refl _) ⟨_,hn⟩ (hv.keep kk) hz) (hlen▸Nat.le_trans hz Db)
  · obtain⟨a,ev,hφ,hd,hz⟩:=I.dict_at hl (ex▸r)
    obtain⟨es,ep,hR,h1,h2⟩:=hd.raw
    rw[e] at h1
    have hz:xs.length≤lim:=e▸Nat.le_trans (Nat.le_of_eq (List.length_map ..)) hz
    have hlen:xs.length=es.size:=h1.length.trans (List.length_map ..)
    rw[ev]
    refine kdl_call (Su (I.mods a (BL hφ List.mem_cons_self))) R.handled hR (hlen▸Nat.le_trans hz Db) fun h' tk acc' c' kk hn hacc=>Fu (items:=acc') I kk (Nat.le_refl _) ⟨_,hn⟩ ?_ hz
    have e:acc'.toList=es.toList.map (·.key):=by
      refine List.ext_getElem? fun i=>?_
      by_cases hi:i<es.size
      · have hi':i<acc'.size:=by rw[hacc.1]; exact hi
        obtain⟨_,e2⟩:=hacc.2 i acc'[i] (by simp[hi'])
        simp[hi,hi',e2]
      · have hi':¬ i<acc'.size:=by rw[hacc.1]; exact hi
        simp[hi,hi']
    exact e▸h1.keep kk
theorem Gg {e:Expr}{m:Ev}{np pos:Pos}(ok:BuiltinOK B sc "list" (.type "list"))(he:Av B n sc e m)
    (hs:Cl e=true:=by rfl) (hst:∀env pos,(backTo pos (starEach [e] env)).any (·.1)=false:=by intro _ _; rfl):
    Av B n sc (.Call (.Name (Str.ofString "list") np) [e] [] pos) (Gs m):=E4 ok (.inl ⟨_,rfl⟩) Wz he hs hst
theorem VG:TB1 B (.type "tuple") fun v σ=>match v with
    | .tup xs=>some (.tup xs,σ)
    | .loc l=>Co (.loc l) σ fun _ xs=>some (.tup xs,σ)
    | _=>none:=by
  intro A E s φ σ x v y σ' R I r h
  cases x with
  | tup xs=>
    refine spair h ?_
    obtain⟨a,items,ev,hi,hv⟩:=id r
    rw[ev] at r ⊢
    exact call_tuple_same hi (Ge I (fun _ _ e=>e) r)
  | loc l=>
    refine B7 (v:= .loc l) (σ:=σ) (F:=fun _ xs=>some (SV.tup xs,σ)) h fun l' xs el hl h=>spair h ?_
    obtain⟨a,items,ev,hφ,hi,hv,hz⟩:=I.list_at hl (el▸r)
    have hlen:xs.length=items.size:=hv.length
    rw[ev]
    refine call_tuple_list hi (fun h' kk=>?_) (hlen▸Nat.le_trans hz Db)
    have k2:∀b o,s.heap.get? b=some o→(h'.push { cls:= .type "tuple",data:= .seq items }).get? b=some o:=fun b o e=>Ax _ _ _ (kk b o e)
    exact Ge (s':={ s with heap:=h'.push { cls:= .type "tuple",data:= .seq items } }) I k2 ⟨_,items,rfl,⟨_,Heap.get?_push_size _ rfl,rfl,_,rfl⟩,hv.keep k2⟩
  | _=>exact nomatch h
theorem DN {e:Expr}{m:Ev}{np pos:Pos}(ok:BuiltinOK B sc "tuple" (.type "tuple"))(he:Av B n sc e m)
    (hs:Cl e=true:=by rfl) (hst:∀env pos,(backTo pos (starEach [e] env)).any (·.1)=false:=by intro _ _; rfl):
    Av B n sc (.Call (.Name (Str.ofString "tuple") np) [e] [] pos) (CL m):=E4 ok (.inl ⟨_,rfl⟩) VG he hs hst
end Mine
namespace Mine
open scoped Classical
open PySem PySem.W PySem.Calls PyProof.Rows
open Sem (wp)
variable {B:Base}{X Y:List Addr}{φ φ' φ1 φ2 φ0:Phi}{σ σ' σ1 σ₂ σ0:Hp}{h h' h₁ h2:Heap}{s s' s1 s2 s0:Shared}{n:Nat}{sc:Scope}{env:Env}{ρ ρ':Rho}{A:Around}{E:Value→Shared→Prop}
theorem QE {xs:List SV}:∀{ns:List Int},ints? xs=some ns→xs=ns.map SV.int:=by
  induction xs with
  | nil=>exact fun e=>Option.some.inj e▸rfl
  | cons x xs ih=>
    intro ns e
    cases x with
    | int i=>exact gmap (show(ints? xs).map (i:: ·)=some ns from e) fun ms h1 e=>by rw[←e,ih h1]; rfl
    | _=>exact nomatch e
theorem Ob {ns:List Int}{items:Array Value}(q:Ak φ h (ns.map SV.int) items.toList){i:Nat}{v:Value}(hv:items[i]? =some v):∃t,v= .int ((ns[i]?).getD 0) t:=by
  have hlen:ns.length=items.size:=(List.length_map ..).symm.trans q.length
  have hi:i<ns.length:=by rw[hlen]; exact(Array.getElem?_eq_some_iff.mp hv).1
  obtain⟨w,hw,r⟩:=q.get (i:=i) (x:= .int ns[i]) (by simp[hi])
  have e:w=v:=Option.some.inj ((IX hw).symm.trans hv)
  rw[List.getElem?_eq_getElem hi]
  exact e▸r
theorem LB (ns:List Int):∀k,k≤ns.length→preSum (fun i=>(ns[i]?).getD 0) k=(ns.take k).sum
  | 0,_=>by simp[preSum]
  | k+1,hk=>by
    have:k<ns.length:=hk
    rw[preSum,LB ns k (by omega),List.take_add_one,List.sum_append]
    simp[this]
theorem QF {a J:Addr}{items:Array Value}{d:Obj}(hi:s.heap.IsList a items)(b:Addr)(hb:b∈ [s.heap.objs.size,a]):b<(s.heap.push d).objs.size:=by
  rw[Heap.size_push]
  exact(List.mem_cons.mp hb).elim (fun e=>e▸Nat.lt_succ_self _) fun hb=>List.mem_singleton.mp hb▸hi.elim fun o ho=>Nat.lt_succ_of_lt (Heap.lt_size ho.1)
theorem Xn:TB1 B (.builtin "sum") fun v σ=>Co v σ fun _ xs=>(ints? xs).map fun ns=>(.int ns.sum,σ):=by
  intro A E s φ σ x v y σ' R I r h
  refine B7 h fun l xs ex hl h=>gmap h fun ns hns h=>spair (congrArg some h) ?_
  obtain⟨a,items,ev,hφ,hi,hv,hz⟩:=I.list_at hl (ex▸r)
  rw[QE hns] at hv
  have hlen:ns.length=items.size:=(List.length_map ..).symm.trans hv.length
  rw[ev]
  refine call_sum_walkAnyS (wpAny_pyIter_list hi ?_)
  have hne:a≠s.heap.objs.size:=hi.elim fun o ho=>Nat.ne_of_lt (Heap.lt_size ho.1)
  refine⟨_,_,_,_,_,_,_,fun i=>(ns[i]?).getD 0,rfl,(Walks.list (A:=A.in1) R.handled s.heap.objs.size a hne items).toS,⟨⟨_,Heap.get?_push_size _ rfl,rfl,rfl⟩,Ft (Ax _) hi⟩,QF (J:=a) hi,fun i v hv'=>Ob hv hv',fun s' t' hm=>?_⟩
  rw[←hlen,LB ns _ (Nat.le_refl _),List.take_length]
  exact Ge I (fun b o q=>hm.heap b o (fun hb=>Bs q (List.mem_singleton.mp hb▸C5)) (Ax _ _ _ q)) ⟨_,rfl⟩ hm.gens hm.os
theorem Uv {e:Expr}{m:Ev}{np pos:Pos}(ok:BuiltinOK B sc "sum" (.builtin "sum"))(he:Av B n sc e m)
    (hs:Cl e=true:=by rfl) (hst:∀env pos,(backTo pos (starEach [e] env)).any (·.1)=false:=by intro _ _; rfl):
    Av B n sc (.Call (.Name (Str.ofString "sum") np) [e] [] pos) (Vn m):=E4 ok (.inr ⟨_,rfl⟩) Xn he hs hst
theorem Ko (x:Int)(ns:List Int):∀k,k≤ns.length→
    (((x::ns)[argBest (fun i j=>decide (((x::ns)[i]?).getD 0>((x::ns)[j]?).getD 0)) k]?).getD 0)=(ns.take k).foldl (fun a b=>if a<b then b else a) x
  | 0,_=>by simp[argBest]
  | k+1,hk=>by
    have ih:=Ko x ns k (by omega)
    have hk':k<ns.length:=hk
    rw[argBest,List.take_add_one,List.foldl_append]
    simp only[hk',List.getElem?_eq_getElem,Option.toList_some,List.foldl_cons,List.foldl_nil]
    rw[←ih]
    have e1:(((x::ns)[k+1]?).getD 0)=ns[k]:=by simp[hk']
    by_cases hlt:(((x::ns)[argBest (fun i j=>decide (((x::ns)[i]?).getD 0>((x::ns)[j]?).getD 0)) k]?).getD 0)<ns[k]
    · rw[if_pos hlt,if_pos (by rw[e1]; simpa using hlt),e1]
    · rw[if_neg hlt,if_neg (by rw[e1]; simpa using hlt)]
theorem Xo:TB1 B (.builtin "max") fun v σ=>Co v σ fun _ xs=>BP ((ints? xs).bind Qa) fun m=>some (.int m,σ):=by
  intro A E s φ σ x v y σ' R I r h
  refine B7 h fun l xs ex hl h=>CH h fun mx hmx h=>spair h ?_
  obtain⟨ns,hns,hmx⟩:=Option.bind_eq_some_iff.mp hmx
  obtain⟨a,items,ev,hφ,hi,hv,hz⟩:=I.list_at hl (ex▸r)
  rw[QE hns] at hv
  have hlen:ns.length=items.size:=(List.length_map ..).symm.trans hv.length
  have hne:a≠s.heap.objs.size:=hi.elim fun o ho=>Nat.ne_of_lt (Heap.lt_size ho.1)
  rw[ev]
  cases ns with
  | nil=>exact nomatch hmx
  | cons z ns=>
    rw[←show _=mx from Option.some.inj hmx]
    refine call_max_walk (wpAny_pyIter_list hi ?_)
    refine⟨_,_,_,_,_,_,fun i j=>decide (((z::ns)[i]?).getD 0>((z::ns)[j]?).getD 0),rfl,Walks.list (A:=A.in1) R.handled s.heap.objs.size a hne items,⟨⟨_,Heap.get?_push_size _ rfl,rfl,rfl⟩,Ft (Ax _) hi⟩,QF (J:=a) hi,by rw[←hlen]; exact Nat.succ_pos _,
      CmpOf.ints_gt (fun i=>((z::ns)[i]?).getD 0) (fun i v hv'=>Ob hv hv'),fun v h' tk hP hm=>?_⟩
    obtain⟨t,ev⟩:=Ob hv hP
    have e:items.size-1=ns.length:=by rw[←hlen]; rfl
    rw[ev,e,Ko z ns _ (Nat.le_refl _),List.take_length]
    exact Ge I (fun b o q=>hm b o (fun hb=>Bs q (List.mem_singleton.mp hb▸C5)) (Ax _ _ _ q)) ⟨_,rfl⟩
theorem Uw {e:Expr}{m:Ev}{np pos:Pos}(ok:BuiltinOK B sc "max" (.builtin "max"))(he:Av B n sc e m)
    (hs:Cl e=true:=by rfl) (hst:∀env pos,(backTo pos (starEach [e] env)).any (·.1)=false:=by intro _ _; rfl):
    Av B n sc (.Call (.Name (Str.ofString "max") np) [e] [] pos) (Vo m):=E4 ok (.inr ⟨_,rfl⟩) Xo he hs hst
end Mine
namespace Mine
open scoped Classical
open PySem PySem.W PySem.Calls PyProof.Rows
open Sem (wp)
variable {B:Base}{X Y:List Addr}{φ φ' φ1 φ2 φ0:Phi}{σ σ' σ1 σ₂ σ0:Hp}{h h' h₁ h₂:Heap}{s s' s1 s2 s0:Shared}{n:Nat}{sc:Scope}{env:Env}{ρ ρ':Rho}{A:Around}{E:Value→Shared→Prop}
theorem Kq {x:SV}(e:IU x σ=true)(I:Inv B φ σ s){v:Value}(r:Al φ s.heap x v):s.TypeIs v "list" ∧∀a,v= .ref a→∃ob,s.heap.get? a=some ob∧ob.dict=none:=by
  obtain⟨l,xs,ex,hl⟩:=SY e
  obtain⟨a,items,ev,_,⟨k,ho⟩,_⟩:=I.plain_at hl (ex▸r)
  exact ev▸⟨⟨_,ho,rfl⟩,fun b hb=>Value.ref.inj hb▸⟨_,ho,rfl⟩⟩
theorem O0 {x:SV}(e:HB x σ=true)(I:Inv B φ σ s){v:Value}(r:Al φ s.heap x v):s.TypeIs v "dict" ∧∀a,v= .ref a→∃ob,s.heap.get? a=some ob∧ob.dict=none:=by
  obtain⟨l,kvs,ver,ex,hl⟩:=SZ e
  obtain⟨a,ev,_,hd,_⟩:=I.dict_at hl (ex▸r)
  exact hd.raw.elim fun es q=>q.elim fun ep q=>ev▸⟨q.1.typeIs,fun b hb=>q.1.elim fun o q=>⟨o,Value.ref.inj hb▸q.1,q.2.1.2.1⟩⟩
noncomputable def TB2 (B:Base)(fv:Value)(f:SV→SV→Hp→Option (SV×Hp)):Prop:=
  ∀(A:Around) (E:Value→Shared→Prop) (s:Shared) (φ:Phi) (σ:Hp) (x1 x2:SV) (v1 v2:Value) (y:SV) (σ':Hp),By A 0→Inv B φ σ s→Al φ s.heap x1 v1→Al φ s.heap x2 v2→f x1 x2 σ=some (y,σ')→
    wpAny (model B.prog B.w) A (call fv [v1,v2]) (BO B [] φ σ s.heap y σ') E s
theorem Kr {T id name:String}{c:SV→Hp→Bool}{f:SV→SV→Hp→Option (SV×Hp)}{o e:Expr}{mo me:Ev}{apos pos:Pos}(pa:PlainAttrs T)(slot:Slot T (Str.ofString name) id)(hty:typeOf (.builtin id)=pure (.type "method_descriptor"))
    (hT:∀σ1 x φ1 s1 v,c x σ1=true→Inv B φ1 σ1 s1→Al φ1 s1.heap x v→s1.TypeIs v T∧∀a,v= .ref a→∃ob,s1.heap.get? a=some ob∧ob.dict=none)
    (hc:TB2 B (.builtin id) f) (ho:Av B n sc o mo) (he:Av B n sc e me)
    (hs:Cl e=true:=by rfl)
    (hbase:∀env whole,attributeBase o (Str.ofString name) env whole=whole:=by intro _ _; rfl)
    (hform:∀env,methodCallForm 1 (backTo pos (starEach [e] env)) []=true:=by intro _; rfl) (hline:(apos.endLine==pos.line)=true:=by rfl)
    (hst:∀env pos,(backTo pos (starEach [e] env)).any (·.1)=false:=by intro _ _; rfl):
    Av B n sc (.Call (.Attribute o (Str.ofString name) apos) [e] [] pos) (K6 c mo me f):=by
  exact fun A E env s φ σ ρ y σ' O R I F h=>AY h fun v1 σ1 h1 h=>gif h fun hcc h=>AY h fun v2 σ₂ h2 h=>
    Hw (x:=v1) pa slot hty ho (Ac he Ad hs) O R I F h1 (HG h2) (fun φ1 s1 v I1 r1=>hT σ1 v1 φ1 s1 v hcc I1 r1) hbase hform hline hst fun v vs s1 q=>
      q.elim fun φ1 q=>have r:=Ak.cons'.mp q.2.2; (FM r.2).elim fun u p=>p.1▸CP q.1 (hc A E s1 φ1 σ₂ v1 v2 v u y σ' R.zero q.2.1 r.1 p.2 h)
theorem Ni {σ₂:Hp}{s':Shared}(q:Gb B X φ σ h σ₂ s'):BO B X φ σ h .none σ₂ .none s':=by
  exact q.elim fun φ' q=>⟨φ',q.1,q.2,rfl⟩
theorem Ux:TB2 B (.builtin "list.append") Qm:=by
  intro A E s φ σ x1 x2 v1 v2 y σ' R I r1 r2 h
  refine B7 h fun l xs ex hl h=>gif h fun hlen h=>spair h ?_
  obtain⟨a,items,ev,hφ,hi,hv,hz⟩:=I.plain_at hl (ex▸r1)
  have hsz:xs.length=items.size:=hv.length
  rw[ev]
  exact wpAny_list_append_plain hi (fun h' hi' hs=>Ni (Jz I hl hφ hs hi' (by rw[Array.toList_push]; exact hv.snoc r2) (by rw[List.length_append]; exact hlen) (t:=s.toks))) (hsz▸Nat.le_trans hz Db)
theorem B9 {o e:Expr}{mo me:Ev}{apos pos:Pos}(ho:Av B n sc o mo)(he:Av B n sc e me)
    (hs:Cl e=true:=by rfl)
    (hbase:∀env whole,attributeBase o (Str.ofString "append") env whole=whole:=by intro _ _; rfl)
    (hform:∀env,methodCallForm 1 (backTo pos (starEach [e] env)) []=true:=by intro _; rfl) (hline:(apos.endLine==pos.line)=true:=by rfl)
    (hst:∀env pos,(backTo pos (starEach [e] env)).any (·.1)=false:=by intro _ _; rfl):
    Av B n sc (.Call (.Attribute o (Str.ofString "append") apos) [e] [] pos) (B6 mo me):=
  Kr PySem.F.plainAttrs_list PySem.F.slot_list_append PySem.F.type_list_append (fun _ _ _ _ _ c I r=>Kq c I r) Ux ho he hs hbase hform hline hst
theorem Uy:TB2 B (.builtin "list.extend") Qn:=by
  intro A E s φ σ x1 x2 v1 v2 y σ' R I r1 r2 h
  refine B7 h fun l xs ex hl h=>B7 h fun r ys ey hr h=>gif h fun hlen h=>spair h ?_
  obtain⟨a,items,ev,hφ,hi,hv,hz⟩:=I.plain_at hl (ex▸r1)
  obtain⟨b,items2,ew,hφ2,hi2,hv2,hz2⟩:=I.plain_at hr (ey▸r2)
  have hsz:xs.length=items.size:=hv.length
  have hsz2:ys.length=items2.size:=hv2.length
  have hle:items.size+items2.size≤sizeLine:=hsz▸hsz2▸Nat.le_trans (Nat.le_of_lt hlen.2) Db
  rw[ev,ew]
  obtain⟨k,ho⟩:=id hi
  obtain⟨k2,ho2⟩:=id hi2
  refine call_meets PySem.F.slot_list_extend ⟨_,ho,rfl⟩ PySem.F.entry_list_extend (PySem.F.args_list_extend_2 _ _) (AutoSeq1.list_extend_list_list_0 a items k b items2 k2 (extend_door hle) (Nat.le_trans (Nat.le_add_right _ _) hle)) ⟨ho,ho2,?_⟩
  have hi':(s.heap.update a (Obj.mapSeq fun x=>x++items2)).PlainList a (items++items2):=⟨_,Heap.get?_update_self (Obj.mapSeq fun x=>x++items2) ho rfl⟩
  exact Ni (Jz I hl hφ (Heap.SameBut.update ..) hi' (by rw[Array.toList_append]; exact hv.append hv2) (by rw[List.length_append]; exact Nat.le_of_lt hlen.2) (t:=s.toks))
theorem Ks {o e:Expr}{mo me:Ev}{apos pos:Pos}(ho:Av B n sc o mo)(he:Av B n sc e me)
    (hs:Cl e=true:=by rfl)
    (hbase:∀env whole,attributeBase o (Str.ofString "extend") env whole=whole:=by intro _ _; rfl)
    (hform:∀env,methodCallForm 1 (backTo pos (starEach [e] env)) []=true:=by intro _; rfl) (hline:(apos.endLine==pos.line)=true:=by rfl)
    (hst:∀env pos,(backTo pos (starEach [e] env)).any (·.1)=false:=by intro _ _; rfl):
    Av B n sc (.Call (.Attribute o (Str.ofString "extend") apos) [e] [] pos) (K9 mo me):=
  Kr PySem.F.plainAttrs_list PySem.F.slot_list_extend PySem.F.type_list_extend (fun _ _ _ _ _ c I r=>Kq c I r) Uy ho he hs hbase hform hline hst
theorem O3 {T id name:String}{f:SV→Hp→Option (SV×Hp)}{o:Expr}{mo:Ev}{apos pos:Pos}(pa:PlainAttrs T)(slot:Slot T (Str.ofString name) id)(hty:typeOf (.builtin id)=pure (.type "method_descriptor"))
    (hT:∀σ1 x y σ' φ1 s1 v,f x σ1=some (y,σ')→Inv B φ1 σ1 s1→Al φ1 s1.heap x v→s1.TypeIs v T∧∀a,v= .ref a→∃ob,s1.heap.get? a=some ob∧ob.dict=none)
    (hc:TB1 B (.builtin id) f) (ho:Av B n sc o mo)
    (hbase:∀env whole,attributeBase o (Str.ofString name) env whole=whole:=by intro _ _; rfl)
    (hline:(apos.endLine==pos.line)=true:=by rfl):
    Av B n sc (.Call (.Attribute o (Str.ofString name) apos) [] [] pos) (Ea mo f):=by
  exact fun A E env s φ σ ρ y σ' O R I F h=>AY h fun v1 σ1 h1 h=>
    Hw (x:=v1) pa slot hty ho Ad O R I F h1 rfl (fun φ1 s1 v I1 r1=>hT σ1 v1 y σ' φ1 s1 v h I1 r1) hbase (fun _=>rfl) hline (fun _ _=>rfl) fun v vs s1 q=>
      q.elim fun φ1 q=>(FM q.2.2).elim fun u p=>p.1▸CP q.1 (hc A E s1 φ1 σ1 v1 u y σ' R.zero q.2.1 p.2 h)
theorem Xp:TB1 B (.builtin "list.pop") Sl:=by
  intro A E s φ σ x v y σ' R I r h
  refine B7 h fun l xs ex hl h=>CH h fun z hz h=>spair h ?_
  obtain⟨a,items,ev,hφ,hi,hv,hz'⟩:=I.plain_at hl (ex▸r)
  have hsz:xs.length=items.size:=hv.length
  rw[List.getLast?_eq_getElem?] at hz
  obtain⟨w,hw,rw'⟩:=hv.get hz
  rw[hsz] at hw
  obtain⟨k,ho⟩:=id hi
  rw[ev]
  refine call_meets PySem.F.slot_list_pop ⟨_,ho,rfl⟩ PySem.F.entry_list_pop (PySem.F.args_list_pop_1 _) (MeetsSeq.list_pop_last a items k w (IX hw) (by rw[←hsz]; exact Nat.le_trans hz' Db)) ⟨ho,?_⟩
  have hi':(s.heap.update a (Obj.mapSeq fun xs=>xs.eraseIdxIfInBounds (items.size-1))).PlainList a (items.eraseIdxIfInBounds (items.size-1)):=⟨_,Heap.get?_update_self (Obj.mapSeq fun xs=>xs.eraseIdxIfInBounds (items.size-1)) ho rfl⟩
  have hL:(items.eraseIdxIfInBounds (items.size-1)).toList=items.toList.take (items.size-1):=by
    rw[Array.toList_eraseIdxIfInBounds,List.eraseIdx_eq_take_drop_succ,List.drop_of_length_le (Nat.le_trans (Nat.le_of_eq (show items.toList.length=items.size from rfl)) (by omega)),List.append_nil]
  obtain⟨φ',G',I'⟩:=Jz (ys:=xs.dropLast) (X:= []) I hl hφ (Heap.SameBut.update ..) hi' (by rw[hL,List.dropLast_eq_take,hsz]; exact hv.take _) (by rw[List.length_dropLast]; exact Nat.le_trans (Nat.sub_le _ _) hz') (t:=s.toks)
  exact⟨φ',G',I',G'.vrep I Bc rw'⟩
theorem O4 {o:Expr}{mo:Ev}{apos pos:Pos}(ho:Av B n sc o mo)
    (hbase:∀env whole,attributeBase o (Str.ofString "pop") env whole=whole:=by intro _ _; rfl) (hline:(apos.endLine==pos.line)=true:=by rfl):
    Av B n sc (.Call (.Attribute o (Str.ofString "pop") apos) [] [] pos) (NW mo):=
  O3 PySem.F.plainAttrs_list PySem.F.slot_list_pop PySem.F.type_list_pop (fun σ1 x y σ' φ1 s1 v hp I r=>B7 hp fun l xs ex hl _=>Kq (ex▸show(match σ1[l]? with | some (.list _)=>true | _=>false)=true by rw[hl]) I r) Xp ho hbase hline
end Mine
namespace Mine
open scoped Classical
open PySem PySem.W PySem.Calls PyProof.Rows
open Sem (wp)
variable {B:Base}{X Y:List Addr}{φ φ' φ1 φ2 φ0:Phi}{σ σ' σ1 σ₂ σ0:Hp}{h h' h₁ h₂:Heap}{s s' s1 s2 s0:Shared}{n:Nat}{sc:Scope}{env:Env}{ρ ρ':Rho}{A:Around}{E:Value→Shared→Prop}
theorem PJ:∀c,c<128→Unicode.isSpace c=E9.contains c:=by decide +kernel
theorem TA:TB1 B (.builtin "str.isspace") fun v σ=>match v with
    | .str s=>match s.toList with
      | [c]=>if c.toNat<128 then some (.bool (E9.contains c.toNat),σ) else none
      | _=>none
    | _=>none:=by
  intro A E s φ σ x v y σ' R I r h
  cases x with
  | str z=>
    replace h:(match z.toList with | [c]=>if c.toNat<128 then some (SV.bool (E9.contains c.toNat),σ) else none | _=>none)=some (y,σ'):=h
    cases hc:z.toList with
    | nil=>rw[hc] at h; exact nomatch h
    | cons c r'=>
    cases r' with
    | cons _ _=>rw[hc] at h; exact nomatch h
    | nil=>
      rw[hc] at h
      refine gif h fun hlt h=>spair h ?_
      obtain⟨t,ev⟩:=r
      rw[ev]
      refine call_gives PySem.F.slot_str_isspace (typeIs_str _ _ _) PySem.F.entry_str_isspace (PySem.F.args_str_isspace_1 _) (gives_str_isspace _ t) ?_
      have e:((Str.ofString z).length>0&&(Str.ofString z).cps.all Unicode.isSpace)=E9.contains c.toNat:=by
        rw[Str.ofString_eq_toList,hc]
        simp[Str.length,PJ _ hlt]
      show BO _ _ _ _ _ _ _ (.bool _) s
      rw[show(decide ((Str.ofString z).length>0)&&(Str.ofString z).cps.all Unicode.isSpace)=E9.contains c.toNat from e]
      exact⟨φ,.refl,I,rfl⟩
  | _=>exact nomatch h
theorem PK {o:Expr}{mo:Ev}{apos pos:Pos}(ho:Av B n sc o mo)
    (hbase:∀env whole,attributeBase o (Str.ofString "isspace") env whole=whole:=by intro _ _; rfl) (hline:(apos.endLine==pos.line)=true:=by rfl):
    Av B n sc (.Call (.Attribute o (Str.ofString "isspace") apos) [] [] pos) (Ql mo):=
  O3 PySem.F.plainAttrs_str PySem.F.slot_str_isspace PySem.F.type_str_isspace (fun σ1 x y σ' φ1 s1 v hp I r=>by
    cases x with
    | str z=>exact r.elim fun t ev=>ev▸⟨typeIs_str _ _ _,fun a ha=>nomatch ha⟩
    | _=>exact nomatch hp) TA ho hbase hline
theorem Nj {k:Int}{j:Int}{u:Value}{xs:List (Int×Value)}(e:j≠k):without ((j,u)::xs) k=(j,u)::without xs k:=by
  simp[without,e]
theorem VH {kvs:List (SV×SV)}{xs:List (Int×Value)}{i:Int}(q:All2 (fun p q=>p.1=SV.int q.1∧Al φ h p.2 q.2) kvs xs)(hn:(xs.map (·.1)).Nodup):
    All2 (fun p q=>p.1=SV.int q.1∧Al φ h p.2 q.2) (Ci kvs (.int i)) (without xs i):=by
  induction q with
  | nil=>exact .nil
  | @cons p x kvs xs rr q ih=>
    obtain⟨k,z⟩:=p
    obtain⟨j,u⟩:=x
    simp only at rr
    obtain⟨rfl,rr⟩:=rr
    rw[List.map_cons,List.nodup_cons] at hn
    by_cases e:j=i
    · subst e
      simp only[Ci,if_true]
      have:without ((j,u)::xs) j=without xs j:=by simp[without]
      rw[this,without_of_not_mem _ _ hn.1]
      exact q
    · have e':¬ (SV.int j=SV.int i):=fun q=>e (SV.int.inj q)
      simp only[Ci,if_neg e']
      rw[Nj e]
      exact .cons ⟨rfl,rr⟩ (ih hn.2)
theorem dictDel_length (k:SV)(kvs:List (SV×SV)):(Ci kvs k).length≤kvs.length:=by
  induction kvs with
  | nil=>exact Nat.le_refl _
  | cons p r ih=>
    show(if p.1=k then r else p::Ci r k).length≤_
    by_cases e:p.1=k
    · rw[if_pos e]; exact Nat.le_succ _
    · rw[if_neg e]; exact Nat.succ_le_succ ih
theorem Uz:TB2 B (.builtin "dict.pop") Ue:=by
  intro A E s φ σ x1 x2 v1 v2 y σ' R I r1 r2 h
  refine Jp h fun l kvs ver ex hl h=>gif h fun hk h=>CH h fun z hz' h=>spair h ?_
  have hk:=Bool.and_eq_true_iff.mp hk
  cases x2 with
  | int i=>
    obtain⟨t,eu⟩:=r2
    obtain⟨a,ev,hφ,D,hz⟩:=I.dict_at hl (ex▸r1)
    obtain⟨xs,hd,q⟩:=D.ints hk.2
    refine(IE (i:=i) q).elim (fun p=>Bs hz' p.1) fun p=>p.elim fun y' p=>p.elim fun w p=>?_
    rw[ev,eu]
    refine call_meetsIn PySem.F.slot_dict_pop hd.typeIs PySem.F.entry_dict_pop (PySem.F.args_dict_pop_2 _ _) (meets_dict_pop_there (prog:=B.prog) (w:=B.w) (knd:=intKind B.prog B.w) (d:=a) (k:=i) (key:= .int i t) (intKind_is B.prog B.w i t) [] (.inl rfl) rfl)
      ⟨xs,w,hd,q.length▸Nat.le_trans hz Db,p.2.1,fun h' hd2 hs=>?_⟩
    have tk:=FT I hφ (BI hs)
    obtain⟨φ',G',I'⟩:=JA (X:= []) I hl hφ hs (.inl ⟨_,hd2,VH (q.mono fun _ _ z=>⟨z.1,z.2.but tk⟩) (Qx hd)⟩) (Nat.le_trans (dictDel_length _ _) hz) (t:=s.toks+1)
    exact⟨φ',G',I',G'.vrep I Bc (Option.some.inj (p.1.symm.trans hz')▸p.2.2)⟩
  | _=>exact nomatch hk.1
theorem QG {o e:Expr}{mo me:Ev}{apos pos:Pos}(ho:Av B n sc o mo)(he:Av B n sc e me)
    (hs:Cl e=true:=by rfl)
    (hbase:∀env whole,attributeBase o (Str.ofString "pop") env whole=whole:=by intro _ _; rfl)
    (hform:∀env,methodCallForm 1 (backTo pos (starEach [e] env)) []=true:=by intro _; rfl) (hline:(apos.endLine==pos.line)=true:=by rfl)
    (hst:∀env pos,(backTo pos (starEach [e] env)).any (·.1)=false:=by intro _ _; rfl):
    Av B n sc (.Call (.Attribute o (Str.ofString "pop") apos) [e] [] pos) (NX mo me):=
  Kr PySem.F.plainAttrs_dict PySem.F.slot_dict_pop PySem.F.type_dict_pop (fun _ _ _ _ _ c I r=>O0 c I r) Uz ho he hs hbase hform hline hst
section
variable {prog:Program}{w:World}{K:Type} [DecidableEq K]{knd:HeapKind prog w K}
theorem Nk {d a:Addr}{xs:List (K×Addr×Value)}{k:K}{v:Value}{Q:Value→Shared→Prop}(hu:knd.room A)(hkey:knd.is s.heap k a)(hm:s.heap.DictOfH knd d xs)
    (hthere:∀p,atKey xs k=some p→Q p.2 { s with toks:=s.toks+knd.draws k })
    (hnew:atKey xs k=none→∀h',h'.DictOfH knd d (storedH xs k a v)→Heap.SameBut d s.heap h'→Q v { s with heap:=h',toks:=s.toks+knd.draws k })
    (hsz:xs.length≤sizeLine:=by size_fits):
    wpAny (model prog w) A (dictSetDefault d (.ref a) v) Q E s:=by
  obtain⟨o,es,ep,ho,hc,hd,he,his,hn⟩:=hm
  unfold dictSetDefault
  try with_reducible refine wpAny_holding ?_
  refine wpAny_bind (knd.pyHash hu hkey ?_)
  refine wpAny_bind (wpAny_dictFind_heap (s:={ s with toks:=s.toks+knd.draws k }) hu hkey ho hd he his hn ?_ ?_)
  · intro hno
    have hnot:k∉xs.map (·.1):=not_mem_keys_of_get hno
    have hz:es.size+1≤sizeLine+1:=by have e:=size_of_entries he; omega
    refine wpAny_bind (wpAny_rule (wpAny_bind (wpAny_updateDictKeys (hz:=by have e:=size_of_entries he; omega) (s:={ s with toks:=s.toks+knd.draws k }) ho hd (wpAny_pure (hnew (atKey_none_of_get hno) _ ⟨_,_,ep+1,Heap.get?_update_self _ ho (Obj.isFreed_of_dict (Obj.data_mapDictKeys hd _)),
      hc.mapDictKeys _,Obj.data_mapDictKeys hd _,?_,?_,?_⟩ (Heap.SameBut.update ..))))))
    · rw[storedH_new (atKey_none_of_get hno)]
      simp[he,entryOfKey]
    · rw[storedH_new (atKey_none_of_get hno)]
      intro x hx
      rcases List.mem_append.mp hx with hx | hx
      · exact knd.keeps (his x hx) ho hd (Heap.SameBut.update ..)
      · simp only[List.mem_singleton] at hx
        subst hx
        exact knd.keeps hkey ho hd (Heap.SameBut.update ..)
    · rw[storedH_new (atKey_none_of_get hno)]
      rw[List.map_append,List.nodup_append]
      refine⟨hn,by simp,?_⟩
      intro x hx y hy
      simp only[List.map_cons,List.map_nil,List.mem_singleton] at hy
      subst hy
      exact fun e=>hnot (e▸hx)
  · intro j p hj
    refine wpAny_bind (wpAny_dictEntries (s:={ s with toks:=s.toks+knd.draws k }) ho hd ?_)
    rw[entry_at he j,hj]
    exact wpAny_bind (wpAny_rule (wpAny_pure (hthere p (atKey_of_get hn hj))))
end
theorem PM {A:Around}{E:Value→Shared→Prop}{x1 x2 x3 y:SV}{v1 v2 v3:Value}(R:By A 0)(I:Inv B φ σ s)(r1:Al φ s.heap x1 v1)(r2:Al φ s.heap x2 v2)(r3:Al φ s.heap x3 v3)
    (h:MS x1 x2 x3 σ=some (y,σ')) (hk2:x2.isTupKey=true):wpAny (model B.prog B.w) A (call (.builtin "dict.setdefault") [v1,v2,v3]) (BO B [] φ σ s.heap y σ') E s:=by
  refine Jp h fun l kvs ver ex hl h=>CH h fun kvs' hset h=>gif hset fun hc hset=>?_
  have hc:=Bool.and_eq_true_iff.mp hc
  rw[←Option.some.inj hset] at h
  obtain⟨a,ev,hφ,D,hz⟩:=I.dict_at hl (ex▸r1)
  have hz2:(AW kvs x2 x3).length≤lim:=Nat.le_trans (dictPut_length _ _ _) (of_decide_eq_true hc.2)
  refine(FB hc.1).elim (fun h1=>N9 h1.1 hk2) fun hk=>?_
  obtain⟨xs,hd,q⟩:=D.tups hk.2
  obtain⟨b,eu,rk⟩:=E0 hk.1 r2
  have hr:(CG B.prog B.w).room A.in1:=Nat.lt_of_le_of_lt (Nat.le_trans (Nat.le_of_eq (Nat.add_assoc _ 1 64)) (Nat.add_le_add_left (by decide) _)) R.cmp
  have hT:s.TypeIs (.ref a) "dict" :=hd.typeIs
  rw[ev,eu]
  refine wpAny_call_entry PySem.F.slot_dict_setdefault hT PySem.F.entry_dict_setdefault ?_ (PySem.F.args_dict_setdefault_3 _ _ _)
  unfold Builtin.«dict.setdefault»
  refine wpAny_bind ?_
  unfold Builtin.Dict.keyAndDefault
  refine wpAny_bind (wpAny_notOrdered_dict hT ?_)
  show wpAny _ _ (pure (a,Value.ref b,some v3)) _ _ s
  refine wpAny_pure ?_
  show wpAny _ _ (if(a==sysModules)=true then _ else(dictSetDefault a (.ref b) v3 >>= _)) _ _ s
  rw[if_neg (by rw[I.mods a (BL hφ List.mem_cons_self)]; exact Bool.false_ne_true)]
  refine wpAny_bind (Nk hr ⟨hk.1,rk⟩ hd (fun p hp=>wpAny_pure ⟨p.2,rfl,?_⟩) (fun hno h' hd2 hs=>wpAny_pure ⟨v3,rfl,?_⟩) (q.length▸Nat.le_trans hz Db))
  · refine(GO (k:=x2) q).elim (fun e=>Bs hp e.2) fun e=>e.elim fun y' e=>e.elim fun c e=>e.elim fun w' e=>?_
    rw[e.1] at h
    exact spair h (BS I (congrArg Prod.snd (Option.some.inj (e.2.1.symm.trans hp))▸e.2.2))
  · refine(GO (k:=x2) q).elim (fun e=>?_) fun e=>e.elim fun y' e=>e.elim fun c e=>e.elim fun w' e=>Bs e.2.1 hno
    rw[e.1] at h
    refine spair h ?_
    have tk:=FT I hφ (BI hs)
    obtain⟨φ',G',I'⟩:=JA (X:= []) I hl hφ hs (.inr ⟨_,hd2,Ml (q.mono fun _ _ z=>⟨z.1,z.2.but tk⟩) (Kl hd) (r3.but tk)⟩) hz2 (t:=s.toks+(CG B.prog B.w).draws x2)
    exact⟨φ',G',I',G'.vrep I Bc r3⟩
theorem Mr {o e1 e2:Expr}{mo m1 m2:Ev}{apos pos:Pos}(ho:Av B n sc o mo)(he1:Av B n sc e1 m1)(he2:Av B n sc e2 m2)
    (hs1:Cl e1=true:=by rfl) (hs2:Cl e2=true:=by rfl)
    (hbase:∀env whole,attributeBase o (Str.ofString "setdefault") env whole=whole:=by intro _ _; rfl)
    (hform:∀env,methodCallForm 2 (backTo pos (starEach [e1,e2] env)) []=true:=by intro _; rfl) (hline:(apos.endLine==pos.line)=true:=by rfl)
    (hst:∀env pos,(backTo pos (starEach [e1,e2] env)).any (·.1)=false:=by intro _ _; rfl):
    Av B n sc (.Call (.Attribute o (Str.ofString "setdefault") apos) [e1,e2] [] pos) (GL mo m1 m2):=by
  intro A E env s φ σ ρ y σ' O R I F h
  refine AY h fun x σ1 h1 h=>gif h fun hc h=>AY h fun k σ₂ h2 h=>AY h fun z σ3 h3 h=>gif h fun hk h=>?_
  have ev:evs [m1,m2] ρ σ1=some ([k,z],σ3):=by show bnd (m1 ρ σ1) _=_; rw[h2]; show bnd (evs [m2] ρ σ₂) _=_; rw[HG h3]; rfl
  refine Hw (x:=x) (xs:= [k,z]) PySem.F.plainAttrs_dict PySem.F.slot_dict_setdefault PySem.F.type_dict_setdefault ho (Ac he1 (Ac he2 Ad hs2) hs1) O R I F h1 (σ₂:=σ3) ev
    (fun φ1 s1 v I1 r1=>O0 hc I1 r1) hbase hform hline hst fun v vs s1 q=>?_
  obtain⟨φ1,G1,I1,r1⟩:=q
  have r:=Ak.cons'.mp r1
  obtain⟨u,w,hu,q2,q3⟩:=Mn r.2
  exact hu▸CP G1 (PM R.zero I1 r.1 q2 q3 h hk)
end Mine
namespace Mine
open scoped Classical
open PySem PySem.W PySem.Calls PyProof.Rows
open Sem (wp)
variable {B:Base}{X Y:List Addr}{φ φ' φ1 φ2 φ0:Phi}{σ σ' σ1 σ₂ σ0:Hp}{h h' h1 h2:Heap}{s s' s1 s2 s0:Shared}{n:Nat}{sc:Scope}{env:Env}{ρ ρ':Rho}{A:Around}{E:Value→Shared→Prop}
theorem QH:typeLookup (.type "list") (Str.ofString "keys")=pure none:=by rw[typeLookup_type,builtinLookup_eq_fast]; kernel_rfl
theorem getAttr?_miss_list {prog:Program}{w:World}{A:Around}{E:Value→Shared→Prop}{s:Shared}{a:Addr}{xs:Array Value}{k:Nat}{Q:Option Value→Shared→Prop}
    (hx:s.heap.get? a=some { cls:= .type "list",data:= .seq xs k }) (hA:A.handled=none)
    (h:∀h' tk e,Heap.NewExcOf s.heap h' e "AttributeError" →Q none { s with heap:=h',toks:=tk }):
    wpAny (model prog w) A (getAttr? (.ref a) (Str.ofString "keys")) Q E s:=by
  obtain⟨hp,g,d,tk,os⟩:=s
  have hT:∀tk',(⟨hp,g,d,tk',os⟩:Shared).TypeIs (.ref a) "list" :=fun _=>⟨_,hx,rfl⟩
  have f1:=sub_AttributeError
  have f3:=PySem.F.slot_list_getattribute.lookup
  have f4:=PySem.F.slot_list_getattribute.bind (.ref a)
  have f5:=am_list_getattr_none
  have hmiss:=QH
  unfold getAttr? getAttrBy? getAttrBy
  repeat (any_goals (first | assumption | exact hT _ | ((with_reducible show wpAny _ _ (call (Value.builtin "list.__getattribute__") _ _) _ _ _); refine call_meets PySem.F.slot_list_getattribute (hT _) am_entry_list_getattribute (PySem.F.args_list_getattribute_2 _ _) (meets_getattribute_miss_list a xs k #[] _ _ hmiss (by decide +kernel)) ⟨hx,hA,fun h' tk' e hx'=>?_⟩) | wp_step))
  obtain⟨t',u',he⟩:=hx'.there
  show wpAny _ _ (getattributeRaised _ _ _ _ _ _ _) _ _ _
  unfold getattributeRaised
  repeat (any_goals (first | assumption | wp_step))
  exact h _ _ _ hx'.of
theorem Hq:entryFor table "dict.update.loop" =some Builtin.«dict.update.loop» :=entryFor_of_tree (by kernel_rfl)
theorem Ed:plainId "dict.update.loop" =true:=by decide +kernel
abbrev Sv (B:Base)(φ:Phi)(h:Heap)(kvs:List (SV×SV))(D:Addr):Prop:=
  ∃xs:List (SV×Addr×Value),h.DictOfH (CG B.prog B.w) D xs∧All2 (fun p q=>p.1=q.1∧Al φ h p.2 q.2.2) kvs xs
theorem PN {p:SV}{rest:List SV}{kvs kvs':List (SV×SV)}(hf:Es (p::rest) kvs=some kvs'):
    ∃kk vv,p= .tup [kk,vv]∧kk.isTupKey=true∧Bz kk kvs=true∧kvs.length<lim∧Es rest (AW kvs kk vv)=some kvs':=
  CH hf fun xs hp hf=>CH hf fun q hq hf=>gif hf fun hk hf=>CH hf fun k2 hs hf=>gif hs fun hc hs=>
    ⟨q.1,q.2,(ON hp).trans (congrArg _ (Kc hq)),hk,(Bool.and_eq_true_iff.mp hc).1,of_decide_eq_true (Bool.and_eq_true_iff.mp hc).2,Option.some.inj hs▸hf⟩
theorem DictOfH.other {a D:Addr}{xs:List (SV×Addr×Value)}(hs:h'.get? D=h.get? D)(tk:∀b its,h.IsTuple b its→h'.IsTuple b its)(e:h.DictOfH (CG B.prog B.w) D xs):h'.DictOfH (CG B.prog B.w) D xs:=
  e.elim fun o q=>q.elim fun es q=>q.elim fun ep q=>⟨o,es,ep,hs.trans q.1,q.2.1,q.2.2.1,q.2.2.2.1,fun x hx=>⟨(q.2.2.2.2.1 x hx).1,(q.2.2.2.2.1 x hx).2.but tk⟩,q.2.2.2.2.2⟩
theorem Sw {b:Addr}{its:Array Value}{o:Obj}(q:h.IsTuple b its)(ho:h.get? b=some o):o.cls= .type "tuple" :=q.elim fun o' q=>(congrArg Obj.cls (Option.some.inj (ho.symm.trans q.1))).trans q.2.1
theorem QI:Value.type "list_iterator" ≠Value.type "tuple" :=by decide
theorem UA {I a D:Addr}{items:Array Value}{ps:List SV}{kvs':List (SV×SV)}{R:Result→Shared→Prop}(hh:A.handled=none)(hu:A.units+100<cLine)(hIa:a≠I)(hID:D≠I)(haD:a≠D):
    ∀(rest:List SV) (k:Nat) (s:Shared) (kvs:List (SV×SV)),s.heap.IsListIter I a k→s.heap.IsList a items→Ak φ s.heap ps items.toList→ps.drop k=rest→Sv B φ s.heap kvs D→kvs.length≤lim→Es rest kvs=some kvs'→
    (∀h' tk,(∀b o,b≠I→b≠D→s.heap.get? b=some o→h'.get? b=some o)→Sv B φ h' kvs' D→kvs'.length≤lim→R (.ok (.ret .none)) { s with heap:=h',toks:=tk })→
    codeAny (model B.prog B.w) A (.builtin "dict.update.loop" ⟨[.ref D,.ref I,rawInt k,.none], []⟩) R s:=by
  intro rest
  induction rest with
  | nil=>
    intro k s kvs hit hl hv hd hD hz hf hR
    refine codeAny_builtin Hq ?_
    rw[Around.under_plainId Ed _]
    show wpAny _ A.in1 (pyNext (.ref I) >>= _) _ _ s
    have hx:items[k]? =none:=Array.getElem?_toList.symm.trans (Ak.none hv (List.getElem?_eq_none (List.drop_eq_nil_iff.mp hd)))
    refine wpAny_bind (wpAny_pyNext_list_end hh hit hl hx fun h' hs=>?_)
    show wpAny _ _ (Builtin.Dict.addKeywords D [] >>= fun _=>ret Value.none) _ _ _
    have tk:∀b its,s.heap.IsTuple b its→h'.IsTuple b its:=fun b its q=>q.elim fun o p=>⟨o,hs b o (fun e=>hit.elim fun o' r=>QI (r.2.1.symm.trans (Sw q (e▸r.1)))) p.1,p.2⟩
    refine wpAny_bind (wpAny_pure (wpAny_pure (hR h' s.toks (fun b o hb _ e=>hs b o hb e) ?_ (Option.some.inj hf▸hz))))
    exact Option.some.inj hf▸hD.elim fun xs q=>⟨xs,Kg (hs D · hID) tk q.1,q.2.mono fun _ _ z=>⟨z.1,z.2.but tk⟩⟩
  | cons p rest ih=>
    intro k s kvs hit hl hv hd hD hz hf hR
    obtain⟨hx,hr,hlt⟩:=Mp hd
    obtain⟨w,hw,rw'⟩:=hv.get hx
    obtain⟨kk,vv,ep,hkk,hfit,hlen,hf⟩:=PN hf
    rw[ep] at rw'
    obtain⟨b,its,ew,hb,hbv⟩:=rw'
    obtain⟨u,v,huv,ru,rv⟩:=Mn hbv
    obtain⟨c,eu,rk⟩:=E0 hkk ru
    obtain⟨xs,hD0,q⟩:=hD
    refine codeAny_builtin Hq ?_
    rw[Around.under_plainId Ed _]
    show wpAny _ A.in1 (pyNext (.ref I) >>= _) _ _ s
    refine wpAny_bind (wpAny_pyNext_list_item hit hl (IX hw) fun h1 hit1 hs1=>?_)
    have tk1:∀c its,s.heap.IsTuple c its→h1.IsTuple c its:=fun c its q=>q.elim fun o p=>⟨o,(hs1.2 c fun e=>hit.elim fun o' r=>QI (r.2.1.symm.trans (Sw q (e▸r.1)))).trans p.1,p.2⟩
    have hb1:=tk1 b its hb
    have hD1:=DictOfH.other (a:=a) (hs1.2 D hID) tk1 hD0
    rw[ew]
    show wpAny _ _ (holding [Value.ref b] _ >>= _) _ _ _
    refine wpAny_bind (wpAny_holding (wpAny_bind (wpAny_tryCatch ?_)))
    unfold Builtin.Dict.pairItems
    refine wpAny_bind (wpAny_typeOf (s:={ s with heap:=h1 }) (IsTuple.typeIs hb1) ?_)
    rw[if_pos (by decide)]
    obtain⟨ot,hot,hct,kt,hdt⟩:=id hb1
    refine wpAny_bind (wpAny_seqItems hot hdt (wpAny_pure ?_))
    show wpAny _ _ (match its.toList with | [k,v]=>_ | l=>_) _ _ _
    rw[huv,eu]
    show wpAny _ _ (holding [Value.ref c,v] (PySem.dictSet D (Value.ref c) v)) _ _ _
    have hr':(CG B.prog B.w).room A.in1:=Nat.lt_of_le_of_lt (Nat.le_trans (Nat.le_of_eq (Nat.add_assoc _ 1 64)) (Nat.add_le_add_left (by decide) _)) hu
    refine wpAny_holding (wpAny_dictSet_heap (s:={ s with heap:=h1 }) hr' ⟨hkk,rk.but tk1⟩ hD1 (fun h2 hd2 hs2=>wpAny_pure ⟨plainId_quiet Ed _,?_⟩) (q.length▸Nat.le_trans hz Db))
    have tk2:∀c its,h1.IsTuple c its→h2.IsTuple c its:=fun c its=>IsTuple.other hD1.choose_spec.choose_spec.choose_spec.1 hD1.choose_spec.choose_spec.choose_spec.2.2.1 hs2
    show codeAny _ _ (.builtin "dict.update.loop" ⟨[.ref D,.ref I,rawInt ((k:Int)+1),.none], []⟩) _ _
    refine ih (k+1) _ (AW kvs kk vv) (hit1.elim fun o r=>⟨o,(hs2.2 I (Ne.symm hID)).trans r.1,r.2⟩) (hl.elim fun o r=>⟨o,(hs2.2 a haD).trans ((hs1.2 a hIa).trans r.1),r.2⟩) ((hv.mono (fun _ _ q=>q) tk1).mono (fun _ _ q=>q) tk2) hr
      ⟨_,hd2,Ml (q.mono fun _ _ z=>⟨z.1,(z.2.but tk1).but tk2⟩) (Kl hD0) ((rv.but tk1).but tk2)⟩ (Nat.le_trans (dictPut_length _ _ _) hlen) hf fun h' tk hk hD' hz'=>?_
    exact hR h' tk (fun b' o' hbI hbD e=>hk b' o' hbI hbD ((hs2.2 b' hbD).trans ((hs1.2 b' hbI).trans e))) hD' hz'
end Mine
namespace Mine
open scoped Classical
open PySem PySem.W PySem.Calls PyProof.Rows
open Sem (wp)
variable {B:Base}{X Y:List Addr}{φ φ' φ1 φ2 φ0:Phi}{σ σ' σ1 σ₂ σ0:Hp}{h h' h1 h2:Heap}{s s' s1 s2 s0:Shared}{n:Nat}{sc:Scope}{env:Env}{ρ ρ':Rho}{A:Around}{E:Value→Shared→Prop}
theorem WA:TB1 B (.type "dict") fun v σ=>Co v σ fun _ ps=>BP (Es ps []) fun kvs=>newObj (.dict kvs 0) σ:=by
  intro A E s φ σ x v y σ' R I r h
  refine B7 h fun l ps ex hl h=>CH h fun kvs hf h=>spair h ?_
  obtain⟨a,items,ev,hφ,⟨k,ho⟩,hv,hz⟩:=I.plain_at hl (ex▸r)
  rw[ev]
  have hlt:a<s.heap.objs.size:=Heap.lt_size ho
  refine callType_codes (Q₁:=fun obj s1=>obj= .ref s.heap.objs.size∧s1={ s with heap:=s.heap.push { cls:= .type "dict",data:= .dict #[] } }) PySem.F.kt_called_dict (PySem.F.kt_typeCall_dict_1 _) PySem.F.entry_dict_init (kt_code_dict_new _ ⟨rfl,rfl⟩) ?_
  intro obj s1 eo
  rw[eo.1,eo.2]
  have hnew:(s.heap.push { cls:= .type "dict",data:= .dict #[] }).DictOfH (CG B.prog B.w) s.heap.objs.size []:=Heap.DictOfH.new s.heap
  have ho':(s.heap.push { cls:= .type "dict",data:= .dict #[] }).get? a=some { cls:= .type "list",data:= .seq items k }:=Ax _ _ _ ho
  have hT:Shared.TypeIs { s with heap:=s.heap.push { cls:= .type "dict",data:= .dict #[] } } (.ref s.heap.objs.size) "dict" :=hnew.typeIs
  have hT':Shared.TypeIs { s with heap:=s.heap.push { cls:= .type "dict",data:= .dict #[] } } (.ref a) "list" :=⟨_,ho',rfl⟩
  refine⟨hT,PySem.F.args_dict_init_2 _ _,?_⟩
  unfold Builtin.«dict.__init__»
  refine wpAny_bind ?_
  unfold Builtin.Dict.selfAndRest
  refine wpAny_bind (wpAny_notOrdered_dict hT ?_)
  show wpAny _ _ (pure (s.heap.objs.size, [Value.ref a])) _ _ _
  refine wpAny_pure ?_
  show wpAny _ _ (Builtin.Dict.updateFrom "dict.__init__" s.heap.objs.size (.ref a) [] .none) _ _ _
  unfold Builtin.Dict.updateFrom
  refine wpAny_bind (wpAny_typeOf hT' ?_)
  rw[if_pos (by decide)]
  refine wpAny_bind (getAttr?_miss_list (s:={ s with heap:=s.heap.push { cls:= .type "dict",data:= .dict #[] } }) ho' R.handled fun h1 tk e hx=>?_)
  rw[if_pos (by rfl)]
  refine wpAny_bind (wpAny_rule ?_)
  have k1:∀b o,s.heap.get? b=some o→h1.get? b=some o:=fun b o q=>hx.keeps b o (Ax _ _ _ q)
  have hl1:h1.IsList a items:=⟨_,hx.keeps _ _ ho',rfl,_,rfl⟩
  refine wpAny_bind (wpAny_pyIter_list (s:={ s with heap:=h1,toks:=tk }) hl1 ?_)
  refine wpAny_pure ⟨plainId_quiet Ed _,?_⟩
  have k2:∀b o,s.heap.get? b=some o→(h1.push { cls:= .type "list_iterator",data:= .fields #[.ref a,.int 0 0] }).get? b=some o:=fun b o q=>Ax _ _ _ (k1 b o q)
  have hD1:∃o,h1.get? s.heap.objs.size=some o:=hnew.elim fun o q=>q.elim fun _ q=>q.elim fun _ q=>⟨o,hx.keeps _ _ q.1⟩
  have hDlt:s.heap.objs.size<h1.objs.size:=hD1.elim fun o q=>Heap.lt_size q
  have hl2:(h1.push { cls:= .type "list_iterator",data:= .fields #[.ref a,.int 0 0] }).IsList a items:=Ft (Ax _) hl1
  have hD2:(h1.push { cls:= .type "list_iterator",data:= .fields #[.ref a,.int 0 0] }).DictOfH (CG B.prog B.w) s.heap.objs.size []:=
    hnew.elim fun o q=>q.elim fun es q=>q.elim fun ep q=>⟨o,es,ep,Ax _ _ _ (hx.keeps _ _ q.1),q.2.1,q.2.2.1,q.2.2.2.1,fun _ hx=>(nomatch hx),q.2.2.2.2.2⟩
  refine UA (A:=A.in1) (φ:=φ) (items:=items) (ps:=ps) R.handled (by show A.units+1+100<cLine; have:=R.units; omega) (Nat.ne_of_lt (Nat.lt_trans hlt hDlt)) (Nat.ne_of_lt hDlt) (Nat.ne_of_lt hlt) ps 0 _ [] ⟨_,Heap.get?_push_size _ rfl,rfl,rfl⟩
    hl2 (hv.keep k2) rfl ⟨[],hD2,.nil⟩ (Nat.zero_le _) hf fun h' tk' hk hD' hz'=>?_
  refine⟨rfl,?_⟩
  have kk:∀b o,s.heap.get? b=some o→h'.get? b=some o:=fun b o q=>hk b o (Nat.ne_of_lt (Nat.lt_trans (Heap.lt_size q) hDlt)) (Nat.ne_of_lt (Heap.lt_size q)) (k2 b o q)
  exact Ig (s:=s) (s':={ s with heap:=h',toks:=tk' }) (a:=s.heap.objs.size) (r:= []) I kk (fun b hb=>List.mem_singleton.mp hb▸C5) (List.pairwise_singleton _ _)
    (hD'.elim fun xs q=>⟨_,rfl,.inr ⟨xs,q.1,q.2.mono fun _ _ z=>⟨z.1,z.2.mono (fun _ _ q=>D5 q) (fun _ _ q=>q)⟩⟩,hz'⟩) rfl (fun b hb=>List.mem_singleton.mp hb▸Nat.le_refl _)
theorem HS {e:Expr}{m:Ev}{np pos:Pos}(ok:BuiltinOK B sc "dict" (.type "dict"))(he:Av B n sc e m)
    (hs:Cl e=true:=by rfl) (hst:∀env pos,(backTo pos (starEach [e] env)).any (·.1)=false:=by intro _ _; rfl):
    Av B n sc (.Call (.Name (Str.ofString "dict") np) [e] [] pos) (EK m):=E4 ok (.inl ⟨_,rfl⟩) WA he hs hst
end Mine
namespace Mine
open scoped Classical
open PySem PySem.W PySem.Calls PyProof.Rows
noncomputable def Dd {α:Type}(lt:Nat→Nat→Bool)(P:Nat→Nat→Prop):KasT α→(α→Prop)→Prop
  | .ret a,Q=>Q a
  | .ask i j k,Q=>P i j∧Dd lt P (k (lt i j)) Q
theorem EP {α β:Type}{lt:Nat→Nat→Bool}{P:Nat→Nat→Prop}{f:α→KasT β}{Q:β→Prop}:∀{t:KasT α},Dd lt P t (fun a=>Dd lt P (f a) Q)→Dd lt P (t.bind f) Q
  | .ret _,h=>h
  | .ask _ _ _,h=>⟨h.1,EP h.2⟩
theorem C6 {α:Type}{lt:Nat→Nat→Bool}{P:Nat→Nat→Prop}{Q Q':α→Prop}(hq:∀a,Q a→Q' a):∀{t:KasT α},Dd lt P t Q→Dd lt P t Q'
  | .ret _,h=>hq _ h
  | .ask _ _ _,h=>⟨h.1,C6 hq h.2⟩
theorem O5 {α:Type}{lt:Nat→Nat→Bool}{P:Nat→Nat→Prop}{cmp:Nat→Nat→(Bool→Shared→Prop)→Shared→Prop}{s:Shared}{Q:α→Prop}{G:α→Shared→Prop}
    (hc:∀i j C,P i j→C (lt i j) s→cmp i j C s) (hG:∀a,Q a→G a s):∀{t:KasT α},Dd lt P t Q→t.kasWp cmp G s
  | .ret a,h=>hG a h
  | .ask i j k,h=>hc i j (fun b s'=>(k b).kasWp cmp G s') h.1 (O5 hc hG h.2)
section
variable {O:KeyOrd}{r:Nat→O.α}{n:Nat}
abbrev AO (r:Nat→O.α)(p:Array Nat)(i:Nat):O.α:=r (p.getD i 0)
abbrev FN (r:Nat→O.α)(i j:Nat):Bool:=O.blt (r i) (r j)
abbrev InR (n:Nat)(i j:Nat):Prop:=i<n∧j<n
noncomputable def Ca (n:Nat)(p:Array Nat):Prop:=p.Perm (List.toArray (List.range n))
noncomputable def ES (r:Nat→O.α)(p:Array Nat)(k:Nat):Prop:=∀i j,i≤j→j<k→O.kle (AO r p i) (AO r p j)
noncomputable def Fv (r:Nat→O.α)(p:Array Nat)(k:Nat):Prop:=∀i j,i≤j→j<k→O.kle (AO r p j) (AO r p i)
theorem Ca.size {p:Array Nat}(g:Ca n p):p.size=n:=by
  have:=Array.Perm.size_eq g
  simpa using this
theorem Ca.lt {p:Array Nat}(g:Ca n p){i:Nat}(hi:i<n):p.getD i 0<n:=by
  have hs:=g.size
  have h1:p.getD i 0∈p:=by simp[Array.getD,hs,hi]
  have h2:=(Array.Perm.mem_iff g).mp h1
  simpa using h2
theorem Ca.rev {p:Array Nat}(g:Ca n p)(i j:Nat):Ca n (kas_rev p i j):=(mirror_perm _ _ _ _).trans g
theorem Ca.bubble {p:Array Nat}(g:Ca n p)(i j:Nat):Ca n (bubble p i j):=(bubble_perm _ _ _).trans g
theorem Ca.range:Ca n (List.toArray (List.range n)):=Array.Perm.refl _
theorem Fw {p q:Array Nat}{i j:Nat}(e:p[i]? =q[j]?):AO r p i=AO r q j:=by
  unfold AO
  rw[Array.getD_eq_getD_getElem?,Array.getD_eq_getD_getElem?,e]
theorem Kt {p:Array Nat}{i j:Nat}(hj:j≤p.size)(k:Nat):AO r (kas_rev p i j) k=if i≤k∧k<j then AO r p (i+j-1-k) else AO r p k:=by
  have e:=getElem?_mirror_all (i:=i) hj k
  unfold kas_rev
  by_cases h:i≤k∧k<j
  · rw[if_pos h] at e ⊢; exact Fw e
  · rw[if_neg h] at e ⊢; exact Fw e
theorem UB {i j k:Nat}(h:i≤k∧k<j):i≤i+j-1-k∧i+j-1-k<j:=by
  have k1:k≤j-1:=Nat.le_pred_of_lt h.2
  have e:i+j-1-k=i+(j-1-k):=by rw[Nat.add_sub_assoc (show 1≤j from Nat.lt_of_le_of_lt (Nat.zero_le _) h.2),Nat.add_sub_assoc k1]
  rw[e]
  exact⟨Nat.le_add_right ..,Nat.lt_of_le_of_lt (Nat.le_trans (Nat.add_le_add_right h.1 _) (Nat.le_of_eq (Nat.add_sub_cancel' k1))) (Nat.pred_lt (Nat.ne_of_gt (Nat.lt_of_le_of_lt (Nat.zero_le _) h.2)))⟩
theorem HT {p:Array Nat}{i j:Nat}(hj:j≤p.size)(he:∀k,i≤k→k<j→AO r p k=AO r p (j-1))(k:Nat):AO r (kas_rev p i j) k=AO r p k:=by
  rw[Kt hj]
  by_cases h:i≤k∧k<j
  · rw[if_pos h,he _ (UB h).1 (UB h).2,he k h.1 h.2]
  · rw[if_neg h]
theorem QJ {p:Array Nat}{src d:Nat}(hs:src<p.size)(hd:d≤src)(k:Nat):
    AO r (bubble p src d) k=if k=src-d then AO r p src else if src-d<k∧k≤src then AO r p (k-1) else AO r p k:=by
  have e:=getElem?_bubble hs d hd k
  by_cases h1:k=src-d
  · rw[if_pos h1] at e ⊢; exact Fw e
  · rw[if_neg h1] at e ⊢
    by_cases h2:src-d<k∧k≤src
    · rw[if_pos h2] at e ⊢; exact Fw e
    · rw[if_neg h2] at e ⊢; exact Fw e
theorem Ms {j k:Nat}{P:Prop}(h:j<k+1)(a:j<k→P)(b:j=k→P):P:=(Nat.lt_or_eq_of_le (Nat.le_of_lt_succ h)).elim a b
theorem ES.snoc {p:Array Nat}{k:Nat}(h:ES r p k)(hk:0<k)(hc:O.blt (AO r p k) (AO r p (k-1))=false):ES r p (k+1):=
  fun i j hij hj=>Ms hj (h i j hij) fun e=>(Nat.lt_or_eq_of_le hij).elim (fun q=>by
    subst e
    exact KeyOrd.kle_trans (h i (j-1) (Nat.le_pred_of_lt q) (Nat.pred_lt (Nat.ne_of_gt hk))) hc) fun q=>q▸KeyOrd.kle_refl _
theorem Fv.snoc {p:Array Nat}{k:Nat}(h:Fv r p k)(hk:0<k)(hc:O.kle (AO r p k) (AO r p (k-1))):Fv r p (k+1):=
  fun i j hij hj=>Ms hj (h i j hij) fun e=>(Nat.lt_or_eq_of_le hij).elim (fun q=>by
    subst e
    exact KeyOrd.kle_trans hc (h i (j-1) (Nat.le_pred_of_lt q) (Nat.pred_lt (Nat.ne_of_gt hk)))) fun q=>q▸KeyOrd.kle_refl _
theorem Sx {n k f:Nat}(h:k+(f+1)≤n):k<n∧k-1<n∧k+1+f≤n:=
  have w:k<n:=Nat.lt_of_lt_of_le (Nat.lt_add_of_pos_right (Nat.succ_pos f)) h
  ⟨w,Nat.lt_of_le_of_lt (Nat.pred_le k) w,Nat.le_trans (Nat.le_of_eq (Nat.succ_add_eq_add_succ k f)) h⟩
theorem Oc {p:Array Nat}(g:Ca n p):∀(f k:Nat),0<k→k+f≤n→ES r p k→
    Dd (FN r) (InR n) (kas_asc p f k) (fun m=>k≤m∧m≤k+f∧ES r p m∧(m=k+f∨O.klt (AO r p m) (AO r p (m-1))))
  | 0,k,_,_,h=>⟨Nat.le_refl _,Nat.le_refl _,h,.inl rfl⟩
  | f+1,k,hk,hn,h=>by
    have w:=Sx hn
    refine⟨⟨g.lt w.1,g.lt w.2.1⟩,?_⟩
    cases hc:FN r (p.getD k 0) (p.getD (k-1) 0) with
    | true=>exact⟨Nat.le_refl _,Nat.le_add_right ..,h,.inr hc⟩
    | false=>exact C6 (fun m q=>⟨Nat.le_of_succ_le q.1,Nat.le_trans q.2.1 (Nat.le_of_eq (Nat.succ_add_eq_add_succ k f)),q.2.2.1,q.2.2.2.imp_left fun e=>e.trans (Nat.succ_add_eq_add_succ k f)⟩) (Oc g f (k+1) (Nat.succ_pos k) w.2.2 (h.snoc hk hc))
noncomputable def Od (r:Nat→O.α)(p:Array Nat)(k q:Nat):Prop:=q+1≤k∧∀i,k-(q+1)≤i→i<k→AO r p i=AO r p (k-1)
theorem QK {p:Array Nat}{k:Nat}(hk:0<k):Od r p k 0:=⟨hk,fun i h1 h2=>congrArg (AO r p) (Nat.le_antisymm (Nat.le_pred_of_lt h2) h1)⟩
theorem Mt:∀(f:Nat) (p:Array Nat) (k q:Nat),Ca n p→0<k→k+f≤n→Fv r p k→Od r p k q→
    Dd (FN r) (InR n) (kas_desc f p k q) (fun z=>Ca n z.1∧k≤z.2.1∧z.2.1≤k+f∧Fv r z.1 z.2.1∧Od r z.1 z.2.1 z.2.2)
  | 0,p,k,q,g,_,_,h,t=>⟨g,Nat.le_refl _,Nat.le_refl _,h,t⟩
  | f+1,p,k,q,g,hk,hn,h,t=>by
    have w:=Sx hn
    refine⟨⟨g.lt w.1,g.lt w.2.1⟩,?_⟩
    have go:∀{z:Array Nat×Nat×Nat},Ca n z.1∧k+1≤z.2.1∧z.2.1≤k+1+f∧Fv r z.1 z.2.1∧Od r z.1 z.2.1 z.2.2→Ca n z.1∧k≤z.2.1∧z.2.1≤k+(f+1)∧Fv r z.1 z.2.1∧Od r z.1 z.2.1 z.2.2:=
      fun q=>⟨q.1,Nat.le_of_succ_le q.2.1,Nat.le_trans q.2.2.1 (Nat.le_of_eq (Nat.succ_add_eq_add_succ k f)),q.2.2.2⟩
    cases hc:FN r (p.getD k 0) (p.getD (k-1) 0) with
    | true=>
      have step:∀p':Array Nat,Ca n p'→(∀i,AO r p' i=AO r p i)→Dd (FN r) (InR n) (kas_desc f p' (k+1) 0) (fun z=>Ca n z.1∧k≤z.2.1∧z.2.1≤k+(f+1)∧Fv r z.1 z.2.1∧Od r z.1 z.2.1 z.2.2):=fun p' g' e=>
        C6 (fun _=>go) (Mt f p' (k+1) 0 g' (Nat.succ_pos k) w.2.2 (fun i j hij hj=>by rw[e,e]; exact h.snoc hk (KeyOrd.kle_of_klt hc) i j hij hj) (QK (Nat.succ_pos k)))
      show Dd (FN r) (InR n) (if q>0 then kas_desc f (kas_rev p (k-(q+1)) k) (k+1) 0 else kas_desc f p (k+1) 0) _
      split
      · exact step _ (g.rev _ _) fun i=>HT (g.size.symm▸Nat.le_of_lt w.1) (fun x h1 h2=>t.2 x h1 h2) i
      · exact step p g fun _=>rfl
    | false=>
      refine⟨⟨g.lt w.2.1,g.lt w.1⟩,?_⟩
      cases hd:FN r (p.getD (k-1) 0) (p.getD k 0) with
      | true=>exact⟨g,Nat.le_refl _,Nat.le_add_right ..,h,t⟩
      | false=>
        have eq:AO r p k=AO r p (k-1):=O.total _ _ hc hd
        refine C6 (fun _=>go) (Mt f p (k+1) (q+1) g (Nat.succ_pos k) w.2.2 (h.snoc hk (by rw[eq]; exact KeyOrd.kle_refl _)) ⟨Nat.succ_le_succ t.1,fun i h1 h2=>?_⟩)
        rw[Nat.add_sub_cancel]
        refine Ms h2 (fun e=>?_) fun e=>e▸rfl
        rw[eq]; exact t.2 i (Nat.le_trans (Nat.le_of_eq (Nat.add_sub_add_right ..).symm) h1) e
theorem Xq {k i j:Nat}(hij:i≤j)(hj:j<k):(0≤i∧i<k)∧(0≤j∧j<k)∧0+k-1-j≤0+k-1-i∧0+k-1-i<k:=by
  rw[Nat.zero_add]
  exact⟨⟨Nat.zero_le _,Nat.lt_of_le_of_lt hij hj⟩,⟨Nat.zero_le _,hj⟩,Nat.sub_le_sub_left hij _,Nat.lt_of_le_of_lt (Nat.sub_le ..) (Nat.pred_lt (Nat.ne_of_gt (Nat.lt_of_le_of_lt (Nat.zero_le _) hj)))⟩
theorem O6 {p:Array Nat}{k:Nat}(g:Ca n p)(hk:0<k)(hn:k≤n)(h:Fv r p k):
    Dd (FN r) (InR n) (kas_tail3 k n p) (fun z=>0<z.1∧z.1≤n∧Ca n z.2∧ES r z.2 z.1):=by
  unfold kas_tail3
  have kn:=Nat.add_sub_cancel' hn
  refine EP (C6 (fun m q=>⟨Nat.lt_of_lt_of_le hk q.1,kn▸q.2.1,g.rev 0 k,q.2.2.1⟩) (Oc (g.rev 0 k) (n-k) k hk (Nat.le_of_eq kn) fun i j hij hj=>?_))
  have w:=Xq hij hj
  rw[Kt (g.size.symm▸hn),Kt (g.size.symm▸hn),if_pos w.1,if_pos w.2.1]
  exact h _ _ w.2.2.1 w.2.2.2
theorem Ku {p:Array Nat}{k:Nat}(g:Ca n p)(hk:0<k)(hn:k<n)(h:∀i,i<k→AO r p i=AO r p (k-1))(hlt:O.klt (AO r p k) (AO r p (k-1))):
    Dd (FN r) (InR n) (kas_descPart k n p) (fun z=>0<z.1∧z.1≤n∧Ca n z.2∧ES r z.2 z.1):=by
  unfold kas_descPart
  have h0:Fv r p k:=fun i j hij hj=>by rw[h i (Nat.lt_of_le_of_lt hij hj),h j hj]; exact KeyOrd.kle_refl _
  have kn:k+1+(n-(k+1))=n:=Nat.add_sub_cancel' hn
  refine EP (C6 (fun z q=>?_) (Mt (n-(k+1)) p (k+1) 0 g (Nat.succ_pos k) (Nat.le_of_eq kn) (h0.snoc hk (KeyOrd.kle_of_klt hlt)) (QK (Nat.succ_pos k))))
  obtain⟨q1,q2,q3,q4,q5⟩:=q
  have z1:=Nat.lt_of_lt_of_le (Nat.succ_pos k) q2
  have z2:z.2.1≤n:=kn▸q3
  split
  · have e:∀i,AO r (kas_rev z.1 (z.2.1-(z.2.2+1)) z.2.1) i=AO r z.1 i:=HT (q1.size.symm▸z2) fun x h1 h2=>q5.2 x h1 h2
    exact O6 (q1.rev _ _) z1 z2 fun i j hij hj=>by rw[e,e]; exact q4 i j hij hj
  · exact O6 q1 z1 z2 q4
theorem UC {p:Array Nat}(g:Ca n p)(hn:0<n):Dd (FN r) (InR n) (kas_count n p) (fun z=>0<z.1∧z.1≤n∧Ca n z.2∧ES r z.2 z.1):=by
  unfold kas_count
  have n1:1+(n-1)=n:=Nat.add_sub_cancel' hn
  refine EP (C6 (fun m q=>?_) (Oc (r:=r) g (n-1) 1 (Nat.succ_pos 0) (Nat.le_of_eq n1) fun i j hij hj=>?_))
  · obtain⟨q1,q2,q3,q4⟩:=q
    rw[n1] at q2 q4
    by_cases e:m=n
    · rw[if_pos (beq_iff_eq.mpr e)]
      exact⟨q1,q2,g,q3⟩
    · rw[if_neg (mt beq_iff_eq.mp e)]
      have mn:=Nat.lt_of_le_of_ne q2 e
      have hlt:O.klt (AO r p m) (AO r p (m-1)):=q4.resolve_left e
      have m1:=Nat.pred_lt (Nat.ne_of_gt q1)
      split
      · refine⟨⟨g.lt hn,g.lt (Nat.lt_trans m1 mn)⟩,?_⟩
        cases hc:FN r (p.getD 0 0) (p.getD (m-1) 0) with
        | true=>exact⟨q1,q2,g,q3⟩
        | false=>
          have heq:∀i,i<m→AO r p i=AO r p (m-1):=fun i hi=>
            KeyOrd.kle_antisymm (q3 i (m-1) (Nat.le_pred_of_lt hi) m1) (KeyOrd.kle_trans hc (q3 0 i (Nat.zero_le _) hi))
          have e2:∀i,AO r (kas_rev p 0 m) i=AO r p i:=HT (g.size.symm▸q2) fun x _ h2=>heq x h2
          exact Ku (g.rev _ _) q1 mn (fun i hi=>by rw[e2,e2]; exact heq i hi) (by rw[e2,e2]; exact hlt)
      · exact Ku g q1 mn (fun i hi=>congrArg (AO r p) (by omega)) hlt
  · exact(Nat.le_antisymm hij (Nat.le_trans (Nat.le_of_lt_succ hj) (Nat.zero_le _)):i=j)▸KeyOrd.kle_refl _
theorem Xr {a b f:Nat}(q:a<b)(hf:b-a≤f+1):a≤(a+b) / 2∧(a+b) / 2<b∧(a+b) / 2-a≤f∧b-((a+b) / 2+1)≤f:=by
  have h1:a≤(a+b) / 2:=(Nat.le_div_iff_mul_le (Nat.succ_pos 1)).mpr (Nat.mul_two a▸Nat.add_le_add_left (Nat.le_of_lt q) a)
  have h2:(a+b) / 2<b:=(Nat.div_lt_iff_lt_mul (Nat.succ_pos 1)).mpr (Nat.mul_two b▸Nat.add_lt_add_right q b)
  exact⟨h1,h2,Nat.le_of_lt_succ (Nat.lt_of_lt_of_le (Nat.sub_lt_sub_right h1 h2) hf),Nat.le_trans (Nat.sub_le_sub_left (Nat.succ_le_succ h1) b) (Nat.sub_le_of_le_add (Nat.le_trans (Nat.le_add_of_sub_le hf) (Nat.le_of_eq (by rw[Nat.add_right_comm,Nat.add_assoc]))))⟩
theorem Kv {p:Array Nat}{k:Nat}(g:Ca n p)(hk:k<n):∀(f a b:Nat),a≤b→b≤k→b-a≤f→ES r p k→(∀i,i<a→O.kle (AO r p i) (AO r p k))→(∀i,b≤i→i<k→O.klt (AO r p k) (AO r p i))→
    Dd (FN r) (InR n) (kas_place p k f a b) (fun l=>l≤k∧(∀i,i<l→O.kle (AO r p i) (AO r p k))∧∀i,l≤i→i<k→O.klt (AO r p k) (AO r p i))
  | 0,a,b,hab,hbk,hf,hu,h1,h2=>⟨Nat.le_trans hab hbk,h1,fun i hi hik=>h2 i (Nat.le_trans (Nat.le_of_sub_eq_zero (Nat.le_zero.mp hf)) hi) hik⟩
  | f+1,a,b,hab,hbk,hf,hu,h1,h2=>by
    unfold kas_place
    by_cases q:b≤a
    · rw[if_pos q]
      exact⟨Nat.le_trans hab hbk,h1,fun i hi hik=>h2 i (Nat.le_trans q hi) hik⟩
    · rw[if_neg q]
      have w:=Xr (Nat.lt_of_not_le q) hf
      have wk:=Nat.lt_of_lt_of_le w.2.1 hbk
      refine⟨⟨g.lt hk,g.lt (Nat.lt_trans wk hk)⟩,?_⟩
      cases hc:FN r (p.getD k 0) (p.getD ((a+b) / 2) 0) with
      | true=>exact Kv g hk f a _ w.1 (Nat.le_of_lt wk) w.2.2.1 hu h1 fun i hi hik=>KeyOrd.klt_of_klt_of_kle hc (hu _ _ hi hik)
      | false=>exact Kv g hk f _ b w.2.1 hbk w.2.2.2 hu (fun i hi=>KeyOrd.kle_trans (hu i ((a+b) / 2) (Nat.le_of_lt_succ hi) wk) hc) h2
theorem bub {p:Array Nat}{k l:Nat}(hk:k<p.size)(hl:l≤k){i:Nat}(hi:i≤k){P:O.α→Prop}(a:i<l→P (AO r p i))(b:i=l→P (AO r p k))(c:l<i→P (AO r p (i-1))):P (AO r (bubble p k (k-l)) i):=by
  rw[QJ hk (Nat.sub_le k l),Nat.sub_sub_self hl]
  by_cases q:i=l
  · rw[if_pos q]; exact b q
  · rw[if_neg q]
    by_cases q2:l<i
    · rw[if_pos ⟨q2,hi⟩]; exact c q2
    · rw[if_neg fun w=>q2 w.1]; exact a (Nat.lt_of_le_of_ne (Nat.le_of_not_lt q2) q)
theorem Sy:∀(f:Nat) (p:Array Nat) (k:Nat),Ca n p→k+f=n→ES r p k→Dd (FN r) (InR n) (kas_bin f p k) (fun p'=>Ca n p'∧ES r p' n)
  | 0,p,k,g,hn,h=>⟨g,by rw[←hn]; exact h⟩
  | f+1,p,k,g,hn,h=>by
    unfold kas_bin
    have kn:k<n:=hn▸Nat.lt_add_of_pos_right (Nat.succ_pos f)
    refine EP (C6 (fun l q=>?_) (Kv (r:=r) g kn k 0 k (Nat.zero_le _) (Nat.le_refl _) (Nat.le_refl _) h (fun i hi=>absurd hi (Nat.not_lt_zero _)) (fun i h1 h2=>absurd h2 (Nat.not_lt_of_le h1))))
    obtain⟨q1,q2,q3⟩:=q
    have ks:=g.size.symm▸kn
    refine Sy f _ (k+1) (g.bubble _ _) ((Nat.succ_add_eq_add_succ k f).trans hn) fun i j hij hj=>?_
    have jk:=Nat.le_of_lt_succ hj
    have pj:∀{x},x<j→j-1<k:=fun w=>Nat.lt_of_lt_of_le (Nat.pred_lt (Nat.ne_of_gt (Nat.lt_of_le_of_lt (Nat.zero_le _) w))) jk
    refine bub (P:=fun x=>O.kle x _) ks q1 (Nat.le_trans hij jk) (fun a=>?_) (fun a=>?_) fun a=>?_
    · exact bub (P:=fun x=>O.kle _ x) ks q1 jk (fun b=>h i j hij (Nat.lt_of_lt_of_le b q1)) (fun _=>q2 i a) fun b=>h i _ (Nat.le_pred_of_lt (Nat.lt_trans a b)) (pj b)
    · exact bub (P:=fun x=>O.kle _ x) ks q1 jk (fun b=>absurd (Nat.lt_of_le_of_lt hij b) (Nat.not_lt_of_le (Nat.le_of_eq a.symm))) (fun _=>KeyOrd.kle_refl _) fun b=>KeyOrd.kle_of_klt (q3 _ (Nat.le_pred_of_lt b) (pj b))
    · exact bub (P:=fun x=>O.kle _ x) ks q1 jk (fun b=>absurd (Nat.lt_trans a (Nat.lt_of_le_of_lt hij b)) (Nat.lt_irrefl _)) (fun b=>absurd (Nat.lt_of_lt_of_le a (b▸hij)) (Nat.lt_irrefl _)) fun b=>h _ _ (Nat.sub_le_sub_right hij 1) (pj b)
theorem VI (hn:0<n):Dd (FN r) (InR n) (kas_sort n) (fun p=>Ca n p∧ES r p n):=by
  unfold kas_sort
  refine EP (C6 (fun z q=>?_) (UC Ca.range hn))
  obtain⟨q1,q2,q3,q4⟩:=q
  split
  · have e:max z.1 1=z.1:=by omega
    rw[e]
    exact Sy _ _ _ q3 (by omega) q4
  · have e:z.1=n:=by omega
    exact⟨q3,by rw[←e]; exact q4⟩
end
end Mine
namespace Mine
open scoped Classical
open PySem PySem.W PySem.Calls PyProof.Rows
theorem Hx:∀a b:List Nat,AU a b= .lt↔a<b
  | [], []=>by simp[AU]
  | [],_::_=>by simp[AU]
  | _::_, []=>by simp[AU]
  | x::xs,y::ys=>by
    rw[List.cons_lt_cons_iff,AU]
    split
    · rename_i h; simp[h]
    · split
      · rename_i h1 h2
        simp only[reduceCtorEq,false_iff,not_or,not_and]
        exact⟨h1,fun e=>by omega⟩
      · rename_i h1 h2
        have e:x=y:=by omega
        subst e
        rw[Hx xs ys]
        simp
theorem DW:∀a b:List Nat,AU a b= .eq↔a=b
  | [], []=>by simp[AU]
  | [],_::_=>by simp[AU]
  | _::_, []=>by simp[AU]
  | x::xs,y::ys=>by
    rw[AU,List.cons.injEq]
    split
    · rename_i h; simp only[reduceCtorEq,false_iff,not_and]; intro e; omega
    · split
      · rename_i h1 h2; simp only[reduceCtorEq,false_iff,not_and]; intro e; omega
      · rename_i h1 h2
        have e:x=y:=by omega
        subst e
        rw[DW xs ys]
        simp
theorem LD:∀(xs ys u v:List Nat),AU (xs.map (· + 1)++0::u) (ys.map (· + 1)++0::v)=(AU xs ys).then (AU u v)
  | [], [],u,v=>by simp[AU,Ordering.then]
  | [],y::ys,u,v=>by simp[AU,Ordering.then]
  | x::xs, [],u,v=>by simp[AU,Ordering.then]
  | x::xs,y::ys,u,v=>by
    have ih:=LD xs ys u v
    simp only[List.map_cons,List.cons_append,AU]
    by_cases h1:x<y
    · rw[if_pos (by omega),if_pos h1]; rfl
    · rw[if_neg (by omega),if_neg h1]
      by_cases h2:y<x
      · rw[if_pos (by omega),if_pos h2]; rfl
      · rw[if_neg (by omega),if_neg h2]; exact ih
mutual
noncomputable def code:SV→List Nat
  | .tup (.str s::ks)=>(Cb s).map (· + 1)++0::Ii ks
  | _=> []
noncomputable def Ii:List SV→List Nat
  | []=> [0]
  | k::ks=>1::(code k++Ii ks)
end
theorem De {x:SV}(h:x.isTree=true):∃s ks,x= .tup (.str s::ks)∧SV.areTrees ks=true:=by
  match x,h with
  | .tup (.str s::ks),h=>exact⟨s,ks,rfl,by simpa [SV.isTree] using h⟩
  | .tup [],h=>simp[SV.isTree] at h
  | .tup (.none::_),h=>simp[SV.isTree] at h
  | .tup (.bool _::_),h=>simp[SV.isTree] at h
  | .tup (.int _::_),h=>simp[SV.isTree] at h
  | .tup (.tup _::_),h=>simp[SV.isTree] at h
  | .tup (.loc _::_),h=>simp[SV.isTree] at h
  | .none,h=>simp[SV.isTree] at h
  | .bool _,h=>simp[SV.isTree] at h
  | .int _,h=>simp[SV.isTree] at h
  | .str _,h=>simp[SV.isTree] at h
  | .loc _,h=>simp[SV.isTree] at h
theorem JF {s t:String}(e:Cb s=Cb t):s=t:=by
  unfold Cb at e
  apply String.toList_inj.mp
  refine List.map_inj_right (f:=Char.toNat) (fun a b h=>?_) |>.mp e
  exact Char.ext (UInt32.toNat_inj.mp h)
mutual
theorem JG:∀(a b:SV) (u v:List Nat),a.isTree=true→b.isTree=true→AU (code a++u) (code b++v)=(C3 a b).then (AU u v)
  | .tup (.str s::ks),b,u,v,ha,hb=>by
    obtain⟨t,ls,rfl,hl⟩:=De hb
    have hk:SV.areTrees ks=true:=by simpa [SV.isTree] using ha
    simp only[code,List.append_assoc,List.cons_append,LD,C3,Bp]
    have ih:=O7 ks ls u v hk hl
    cases AU (Cb s) (Cb t) with
    | lt=>rfl
    | gt=>rfl
    | eq=>exact ih
  | .tup [],_,_,_,h,_=>by simp[SV.isTree] at h
  | .tup (.none::_),_,_,_,h,_=>by simp[SV.isTree] at h
  | .tup (.bool _::_),_,_,_,h,_=>by simp[SV.isTree] at h
  | .tup (.int _::_),_,_,_,h,_=>by simp[SV.isTree] at h
  | .tup (.tup _::_),_,_,_,h,_=>by simp[SV.isTree] at h
  | .tup (.loc _::_),_,_,_,h,_=>by simp[SV.isTree] at h
  | .none,_,_,_,h,_=>by simp[SV.isTree] at h
  | .bool _,_,_,_,h,_=>by simp[SV.isTree] at h
  | .int _,_,_,_,h,_=>by simp[SV.isTree] at h
  | .str _,_,_,_,h,_=>by simp[SV.isTree] at h
  | .loc _,_,_,_,h,_=>by simp[SV.isTree] at h
theorem O7:∀(as bs:List SV) (u v:List Nat),SV.areTrees as=true→SV.areTrees bs=true→AU (Ii as++u) (Ii bs++v)=(Bp as bs).then (AU u v)
  | [], [],u,v,_,_=>by simp[Ii,AU,Bp,Ordering.then]
  | [],_::_,u,v,_,_=>by simp[Ii,AU,Bp,Ordering.then]
  | _::_, [],u,v,_,_=>by simp[Ii,AU,Bp,Ordering.then]
  | a::as,b::bs,u,v,ha,hb=>by
    simp only[SV.areTrees,Bool.and_eq_true] at ha hb
    simp only[Ii,List.cons_append,List.append_assoc,AU,Nat.lt_irrefl,if_false,Bp]
    rw[JG a b _ _ ha.1 hb.1,O7 as bs u v ha.2 hb.2]
    cases C3 a b <;> rfl
end
theorem Kw {a b:SV}(ha:a.isTree=true)(hb:b.isTree=true):DK a b=decide (code a<code b):=by
  have h:=JG a b [] [] ha hb
  rw[List.append_nil,List.append_nil] at h
  have e:AU (code a) (code b)=C3 a b:=by rw[h]; cases C3 a b <;> rfl
  unfold DK
  rw[←e]
  rw[Bool.eq_iff_iff]
  simp only[beq_iff_eq,decide_eq_true_eq]
  exact Hx _ _
mutual
theorem Mu:∀(a b:SV),a.isTree=true→b.isTree=true→C3 a b= .eq→a=b
  | .tup (.str s::ks),b,ha,hb,h=>by
    obtain⟨t,ls,rfl,hl⟩:=De hb
    have hk:SV.areTrees ks=true:=by simpa [SV.isTree] using ha
    simp only[C3,Bp] at h
    cases hc:AU (Cb s) (Cb t) with
    | lt=>rw[hc] at h; cases h
    | gt=>rw[hc] at h; cases h
    | eq=>
      rw[hc] at h
      rw[JF ((DW _ _).mp hc),O8 ks ls hk hl h]
  | .tup [],_,h,_,_=>by simp[SV.isTree] at h
  | .tup (.none::_),_,h,_,_=>by simp[SV.isTree] at h
  | .tup (.bool _::_),_,h,_,_=>by simp[SV.isTree] at h
  | .tup (.int _::_),_,h,_,_=>by simp[SV.isTree] at h
  | .tup (.tup _::_),_,h,_,_=>by simp[SV.isTree] at h
  | .tup (.loc _::_),_,h,_,_=>by simp[SV.isTree] at h
  | .none,_,h,_,_=>by simp[SV.isTree] at h
  | .bool _,_,h,_,_=>by simp[SV.isTree] at h
  | .int _,_,h,_,_=>by simp[SV.isTree] at h
  | .str _,_,h,_,_=>by simp[SV.isTree] at h
  | .loc _,_,h,_,_=>by simp[SV.isTree] at h
theorem O8:∀(as bs:List SV),SV.areTrees as=true→SV.areTrees bs=true→Bp as bs= .eq→as=bs
  | [], [],_,_,_=>rfl
  | [],_::_,_,_,h=>by simp[Bp] at h
  | _::_, [],_,_,h=>by simp[Bp] at h
  | a::as,b::bs,ha,hb,h=>by
    simp only[SV.areTrees,Bool.and_eq_true] at ha hb
    simp only[Bp] at h
    cases hc:C3 a b with
    | lt=>rw[hc] at h; cases h
    | gt=>rw[hc] at h; cases h
    | eq=>
      rw[hc] at h
      rw[Mu a b ha.1 hb.1 hc,O8 as bs ha.2 hb.2 h]
end
theorem QL {a b:SV}(ha:a.isTree=true)(hb:b.isTree=true)(e:code a=code b):a=b:=by
  refine Mu a b ha hb ?_
  have h:=JG a b [] [] ha hb
  rw[List.append_nil,List.append_nil,(DW _ _).mpr e] at h
  cases hc:C3 a b with
  | eq=>rfl
  | lt=>rw[hc] at h; cases h
  | gt=>rw[hc] at h; cases h
theorem JH (x:SV):∀ys:List SV,(GK x ys).Perm (x::ys)
  | []=> .refl _
  | y::ys=>by
    unfold GK
    split
    · exact .refl _
    · exact((JH x ys).cons y).trans (.swap x y ys)
theorem CI:∀xs:List SV,(AS xs).Perm xs
  | []=> .refl _
  | x::xs=>(JH x _).trans ((CI xs).cons x)
section
variable {O:KeyOrd}{c:SV→O.α}
theorem Kx (x:SV):∀ys:List SV,(∀y,y∈ys→DK x y=O.blt (c x) (c y))→ys.Pairwise (fun a b=>O.kle (c a) (c b))→(GK x ys).Pairwise (fun a b=>O.kle (c a) (c b))
  | [],_,_=>List.pairwise_singleton _ _
  | y::ys,hl,hp=>by
    unfold GK
    rw[List.pairwise_cons] at hp
    split
    · rename_i h
      rw[hl y List.mem_cons_self] at h
      refine List.Pairwise.cons (fun z hz=>?_) (List.pairwise_cons.mpr hp)
      rcases List.mem_cons.mp hz with rfl | hz
      · exact KeyOrd.kle_of_klt h
      · exact KeyOrd.kle_trans (KeyOrd.kle_of_klt h) (hp.1 z hz)
    · rename_i h
      rw[hl y List.mem_cons_self] at h
      refine List.Pairwise.cons (fun z hz=>?_) (Kx x ys (fun z hz=>hl z (List.mem_cons_of_mem _ hz)) hp.2)
      rcases List.mem_cons.mp ((JH x ys).mem_iff.mp hz) with rfl | hz
      · exact KeyOrd.kle_of_not_klt h
      · exact hp.1 z hz
theorem FC:∀xs:List SV,(∀x y,x∈xs→y∈xs→DK x y=O.blt (c x) (c y))→(AS xs).Pairwise (fun a b=>O.kle (c a) (c b))
  | [],_=> .nil
  | x::xs,hl=>Kx x _ (fun y hy=>hl x y List.mem_cons_self (List.mem_cons_of_mem _ ((CI xs).mem_iff.mp hy))) (FC xs fun a b ha hb=>hl a b (List.mem_cons_of_mem _ ha) (List.mem_cons_of_mem _ hb))
theorem LE {xs ys:List SV}(hl:∀x y,x∈xs→y∈xs→DK x y=O.blt (c x) (c y))(hi:∀x y,x∈xs→y∈xs→c x=c y→x=y)(hp:ys.Perm xs)(hs:ys.Pairwise (fun a b=>O.kle (c a) (c b))):AS xs=ys:=by
  refine List.Perm.eq_of_pairwise (le:=fun a b=>O.kle (c a) (c b)) (fun a b ha hb h1 h2=>?_) (FC xs hl) hs ((CI xs).trans hp.symm)
  exact hi a b ((CI xs).mem_iff.mp ha) (hp.mem_iff.mp hb) (KeyOrd.kle_antisymm h1 h2)
theorem O9 {xs ys:List SV}(hl:∀x y,x∈xs→y∈xs→DK x y=O.blt (c x) (c y))(hi:∀x y,x∈xs→y∈xs→c x=c y→x=y)(hp:ys.Perm xs):AS xs=AS ys:=by
  refine LE hl hi ((CI ys).trans hp) (FC ys fun x y hx hy=>hl x y (hp.mem_iff.mp hx) (hp.mem_iff.mp hy))
end
end Mine
namespace Mine
open scoped Classical
open PySem PySem.W PySem.Calls PyProof.Rows
open Sem (wp)
variable {B:Base}{X Y:List Addr}{φ φ' φ1 φ2 φ0:Phi}{σ σ' σ1 σ₂ σ0:Hp}{h h' h₁ h₂:Heap}{s s' s1 s2 s0:Shared}{n:Nat}{A:Around}{E:Value→Shared→Prop}
abbrev Xs (A:Around)(s:Shared)(p q:Value)(b:Bool):Prop:=∀(prog:Program) (w:World) (E:Value→Shared→Prop) (Q:Bool→Shared→Prop),Q b s→wpAny (model prog w) A (eqBool p q) Q E s
noncomputable def QM (A:Around)(s:Shared)(p q:Value)(b:Bool):Prop:=∀(prog:Program) (w:World) (E:Value→Shared→Prop) (Q:Value→Shared→Prop),Q (.bool b) s→wpAny (model prog w) A (richCompare .Lt p q) Q E s
noncomputable def Lf (A:Around)(s:Shared)(fin res:Bool):List (Value×Value)→Prop
  | []=>res=fin
  | (p,q)::r=>∃e,Xs A s p q e∧(e=true→Lf A s fin res r)∧(e=false→QM A s p q res)
theorem TB (l b:Addr)(items items2:Array Value)(n n2:Nat)(dd dd2:Option Addr)(sl sl2:Array (Option Value))(res:Bool):
    Meets (Builtin.«tuple.__lt__» ⟨[.ref l,.ref b], []⟩)
      (fun A R s=>s.heap.get? l=some { cls:= .type "tuple",dict:=dd,data:= .seq items n,slots:=sl }∧s.heap.get? b=some { cls:= .type "tuple",dict:=dd2,data:= .seq items2 n2,slots:=sl2 }∧
        Lf A.in1 s (decide (items.size<items2.size)) res (items.toList.zip items2.toList)∧R (.ok (.ret (.bool res))) s):=
  .of_wp fun prog w A R s h=>by
    obtain⟨hp,g,d,tk,os⟩:=s; obtain⟨hl,hb,he,h⟩:=h
    have f2:=AutoSeq1.sub_tuple_tuple
    wp_walk using wpAny_loadPart' hl,wpAny_loadPart' hb,wpAny_forIn_list _ (fun rest b s'=>b.1=none∧s'=⟨hp,g,d,tk,os⟩∧Lf A.in1 ⟨hp,g,d,tk,os⟩ (decide (items.size<items2.size)) res rest) _
    case turn=>
      rintro⟨y,x⟩ rest b s' ⟨hb',rfl,e,he1,he2,he3⟩
      refine wpAny_bind (he1 prog w _ _ ?_)
      cases e with
      | true=>
        wp_walk
        exact⟨rfl,rfl,he2 rfl⟩
      | false=>
        have hlt:=he3 rfl prog w
        wp_walk using hlt _ _
        exact⟨_,rfl,h⟩
    case fin=>
      rintro⟨b1,b2⟩ s' ⟨hb',rfl,hR⟩
      simp only at hb'
      subst hb'
      have hR':res=decide (items.size<items2.size):=hR
      subst hR'
      wp_walk
      exact⟨_,rfl,by simpa [Builtin.Tuple.tupleCompareSizes] using h⟩
    case h=>
      exact⟨rfl,rfl,he⟩
theorem Mv {x y:SV}{v w:Value}{n m:Nat}(hx:x.isKeyD n=true)(hy:y.isKeyD m=true)(rx:Al [] s.heap x v)(ry:Al [] s.heap y w)(hu:A.units+n<cLine):Xs A s v w (decide (x=y)):=by
  intro prog w' E Q hq
  refine SeqAt.eqAt_reads (Do x) (Do y) A s v w [] [] (Ie _ x _ hx rx) (Ie _ y _ hy ry) (Ga _ x hx) (Ga _ y hy) ?_ prog w' E Q ?_
  · have h1:=OO _ x hx
    have:min (Do x).depth (Do y).depth≤n:=Nat.le_trans (Nat.min_le_left _ _) h1
    omega
  · rw[N7 _ _ x y hx hy]; exact hq
theorem TC {x:SV}(h:x.isTree=true):C3 x x= .eq:=by
  have h1:=JG x x [] [] h h
  rw[(DW _ _).mpr rfl] at h1
  cases hc:C3 x x with
  | eq=>rfl
  | lt=>rw[hc] at h1; cases h1
  | gt=>rw[hc] at h1; cases h1
theorem VJ {x y:String}{t u:Tok}:QM A s (.str (Str.ofString x) t) (.str (Str.ofString y) u) (AU (Cb x) (Cb y)== .lt):=by
  intro prog w E Q hq
  refine richCompare_gives (op:= .Lt) (typeIs_str s _ t) (typeIs_str s _ u) PySem.F.slot_str_lt PySem.F.entry_str_lt (PySem.F.args_str_lt_2 _ _) (gives_str_lt _ _ t u) (fun e=>nomatch e) ?_
  have e:(decide ((Str.ofString x).cps.toList<(Str.ofString y).cps.toList))=(AU (Cb x) (Cb y)== .lt):=by
    rw[Bool.eq_iff_iff]
    simp only[decide_eq_true_eq,beq_iff_eq,Hx,Str.ofString_eq_toList]
    exact Iff.rfl
  show Q (.bool (decide ((Str.ofString x).cps.toList<(Str.ofString y).cps.toList))) s
  rw[e]; exact hq
theorem Ky {n:Nat}(ih:∀(x y:SV) (v w:Value),x.isTree=true→y.isTree=true→x.isKeyD n=true→y.isKeyD n=true→Al [] s.heap x v→Al [] s.heap y w→QM A s v w (DK x y))(hu:A.units+n<cLine):
    ∀(xs ys:List SV) (vs ws:List Value),SV.areTrees xs=true→SV.areTrees ys=true→SV.areKeysD n xs=true→SV.areKeysD n ys=true→Ak [] s.heap xs vs→Ak [] s.heap ys ws→
      Lf A s (decide (vs.length<ws.length)) (Bp xs ys == .lt) (vs.zip ws)
  | [],ys,vs,ws,_,_,_,_,rx,ry=>by
    have e1:=rx.length; have e2:=ry.length
    have:vs= []:=List.length_eq_zero_iff.mp (by simpa using e1.symm)
    subst this
    rw[List.zip_nil_left]
    show(Bp [] ys == .lt)=decide (0<ws.length)
    cases ys with
    | nil=>simp only[List.length_nil] at e2; rw[←e2]; rfl
    | cons y ys=>simp only[List.length_cons] at e2; rw[←e2]; simp[Bp]
  | x::xs, [],vs,ws,_,_,_,_,rx,ry=>by
    have e1:=rx.length; have e2:=ry.length
    have:ws= []:=List.length_eq_zero_iff.mp (by simpa using e2.symm)
    subst this
    rw[List.zip_nil_right]
    show(Bp (x::xs) []== .lt)=decide (vs.length<0)
    simp[Bp]
  | x::xs,y::ys,vs,ws,hx,hy,kx,ky,rx,ry=>by
    simp only[Ak] at rx ry
    obtain⟨v,vs',rfl,rx1,rx2⟩:=rx
    obtain⟨w,ws',rfl,ry1,ry2⟩:=ry
    simp only[SV.areTrees,Bool.and_eq_true] at hx hy
    simp only[SV.areKeysD,Bool.and_eq_true] at kx ky
    rw[List.zip_cons_cons]
    refine⟨decide (x=y),Mv kx.1 ky.1 rx1 ry1 hu,fun e=>?_,fun e=>?_⟩
    · have e':x=y:=of_decide_eq_true e
      subst e'
      have h1:Bp (x::xs) (x::ys)=Bp xs ys:=by simp only[Bp,TC hx.1]
      have h2:decide ((v::vs').length<(w::ws').length)=decide (vs'.length<ws'.length):=by simp
      rw[h1,h2]
      exact Ky ih hu xs ys vs' ws' hx.2 hy.2 kx.2 ky.2 rx2 ry2
    · have e':x≠y:=of_decide_eq_false e
      have h1:(Bp (x::xs) (y::ys)== .lt)=DK x y:=by
        unfold DK
        simp only[Bp]
        cases hc:C3 x y with
        | eq=>exact absurd (Mu x y hx.1 hy.1 hc) e'
        | lt=>rfl
        | gt=>rfl
      rw[h1]
      exact ih x y v w hx.1 hy.1 kx.1 ky.1 rx1 ry1
theorem VK {n:Nat}(ih:∀(x y:SV) (v w:Value),x.isTree=true→y.isTree=true→x.isKeyD n=true→y.isKeyD n=true→Al [] s.heap x v→Al [] s.heap y w→QM A s v w (DK x y))(hu:A.units+n<cLine)
    {a b:String} {xs ys:List SV} {vs ws:List Value} (hx:SV.areTrees xs=true) (hy:SV.areTrees ys=true) (kx:SV.areKeysD n xs=true) (ky:SV.areKeysD n ys=true) (rx:Ak [] s.heap (.str a::xs) vs) (ry:Ak [] s.heap (.str b::ys) ws):
    Lf A s (decide (vs.length<ws.length)) (Bp (.str a::xs) (.str b::ys)== .lt) (vs.zip ws):=by
  simp only[Ak] at rx ry
  obtain⟨v,vs',rfl,rx1,rx2⟩:=rx
  obtain⟨w,ws',rfl,ry1,ry2⟩:=ry
  have rx1':=rx1
  have ry1':=ry1
  simp only[Al] at rx1' ry1'
  obtain⟨t,rfl⟩:=rx1'
  obtain⟨u,rfl⟩:=ry1'
  rw[List.zip_cons_cons]
  refine⟨decide ((SV.str a)=SV.str b),Mv (n:=n) (m:=n) (by simp[SV.isKeyD]) (by simp[SV.isKeyD]) rx1 ry1 hu,fun e=>?_,fun e=>?_⟩
  · have e':a=b:=SV.str.inj (of_decide_eq_true e)
    subst e'
    have h1:Bp (.str a::xs) (.str a::ys)=Bp xs ys:=by simp only[Bp,C3,(DW _ _).mpr rfl]
    have h2:decide ((Value.str (Str.ofString a) t::vs').length<(Value.str (Str.ofString a) u::ws').length)=decide (vs'.length<ws'.length):=by simp
    rw[h1,h2]
    exact Ky ih hu xs ys vs' ws' hx hy kx ky rx2 ry2
  · have e':a≠b:=fun q=>of_decide_eq_false e (by rw[q])
    have h1:(Bp (.str a::xs) (.str b::ys)== .lt)=(AU (Cb a) (Cb b)== .lt):=by
      simp only[Bp,C3]
      cases hc:AU (Cb a) (Cb b) with
      | eq=>exact absurd (JF ((DW _ _).mp hc)) e'
      | lt=>rfl
      | gt=>rfl
    rw[h1]
    exact VJ
theorem FD {n:Nat}{a:String}{ks:List SV}(h:(SV.tup (.str a::ks)).isKeyD (n+1)=true):SV.areKeysD n ks=true:=by
  simp only[SV.isKeyD,SV.areKeysD,Bool.and_eq_true] at h
  exact h.2
theorem Pa:∀(n:Nat) (A:Around) (s:Shared) (x y:SV) (v w:Value),A.units+2*n+4<cLine→x.isTree=true→y.isTree=true→x.isKeyD n=true→y.isKeyD n=true→Al [] s.heap x v→Al [] s.heap y w→QM A s v w (DK x y)
  | 0,A,s,x,y,v,w,_,hx,_,kx,_,_,_=>by
    obtain⟨a,ks,rfl,_⟩:=De hx
    simp[SV.isKeyD] at kx
  | n+1,A,s,x,y,v,w,hu,hx,hy,kx,ky,rx,ry=>by
    obtain⟨a,ks,rfl,hk⟩:=De hx
    obtain⟨b,ls,rfl,hl⟩:=De hy
    simp only[Al] at rx ry
    obtain⟨p,items,rfl,⟨o,ho,hc,k,hd⟩,rx⟩:=rx
    obtain⟨q,items2,rfl,⟨o2,ho2,hc2,k2,hd2⟩,ry⟩:=ry
    obtain⟨c,dd,dat,sl⟩:=o
    obtain⟨c2,dd2,dat2,sl2⟩:=o2
    simp only at hc hd hc2 hd2
    subst hc hd hc2 hd2
    intro prog w' E Q hq
    refine wpAny_richCompare_same_room (op:= .Lt) (T:= "tuple") ⟨_,ho,rfl⟩ ⟨_,ho2,rfl⟩ PySem.F.slot_tuple_lt ?_ (by omega)
    refine call_meets PySem.F.slot_tuple_lt ⟨_,ho,rfl⟩ PySem.F.entry_tuple_lt (PySem.F.args_tuple_lt_2 _ _) (TB p q items items2 k k2 dd dd2 sl sl2 (DK (.tup (.str a::ks)) (.tup (.str b::ls)))) ⟨ho,ho2,?_,?_⟩
    · have hu1:A.in1.units+2*n+4<cLine:=by show A.units+1+2*n+4<cLine; omega
      have:=VK (A:=A.in1) (s:=s) (n:=n) (fun x y v w=>Pa n A.in1 s x y v w hu1) (by show A.units+1+n<cLine; omega) hk hl (FD kx) (FD ky) rx ry
      have e:DK (.tup (.str a::ks)) (.tup (.str b::ls))=(Bp (.str a::ks) (.str b::ls)== .lt):=by unfold DK; rw[C3]
      rw[e]
      simpa using this
    · exact⟨by simp,hq⟩
end Mine
namespace Mine
open scoped Classical
open PySem PySem.W PySem.Calls PyProof.Rows
open Sem (wp)
variable {B:Base}{X Y:List Addr}{φ φ' φ1 φ2 φ0:Phi}{σ σ' σ1 σ₂ σ0:Hp}{h h' h1 h₂:Heap}{s s' s₁ s₂ s0:Shared}{n:Nat}{A:Around}{E:Value→Shared→Prop}
structure SortOf (B:Base) (A:Around) (h:Heap) (vs:List Value) (O:KeyOrd) (r:Nat→O.α):Prop where
  ask:2≤vs.length→∃κ:SortKind,(∀(E:Value→Shared→Prop) (s':Shared) (Q:SortKind→Shared→Prop),(∀b o,h.get? b=some o→s'.heap.get? b=some o)→Q κ s'→wpAny (model B.prog B.w) A (keyKind' vs.toArray) Q E s')∧
    ∀(s':Shared) (i j:Nat) (C:Bool→Shared→Prop),(∀b o,h.get? b=some o→s'.heap.get? b=some o)→i<vs.length∧j<vs.length→C (O.blt (r i) (r j)) s'→kas_ask B.prog B.w A κ vs i j C s'
abbrev Fg (vs:List Value)(p:Array Nat):List Value:=p.toList.map fun i=>vs.getD i Value.none
theorem RW (vs:List Value):Fg vs (List.toArray (List.range vs.length))=vs:=by
  refine List.ext_getElem? fun i=>?_
  by_cases hi:i<vs.length
  · simp[Fg,hi]
  · simp[Fg,hi]
theorem UD {L:Addr}{vs:List Value}{k:Nat}{O:KeyOrd}{r:Nat→O.α}{P:PySem.Fin→Shared→Prop}(h0:Heap)(hk:∀b o,h0.get? b=some o→b≠L∧s.heap.get? b=some o)(S:SortOf B A h0 vs O r)
    (ho:s.heap.get? L=some (seqObj "list" vs.toArray k)) (h64:vs.length<64)
    (h:∀p h',Ca vs.length p→ES r p vs.length→(∀b o,b≠L→s.heap.get? b=some o→h'.get? b=some o)→h'.PlainList L (Fg vs p).toArray→P (.done (.ret .none)) { s with heap:=h' }):
    wpAny (model B.prog B.w) A (Builtin.«list.sort» ⟨[.ref L], []⟩) P E s:=by
  have hL:L<s.heap.objs.size:=Heap.lt_size ho
  have s1:=Heap.SameBut.update s.heap L (Obj.mapSeq fun _=>(#[]:Array Value))
  obtain⟨e1,ho1⟩:∃e1,(s.heap.update L (Obj.mapSeq fun _=>(#[]:Array Value))).get? L=some (seqObj "list" #[] e1):=⟨_,get?_update_seq ho fun _=> #[]⟩
  have ho6:(((s.heap.update L (Obj.mapSeq fun _=>(#[]:Array Value))).push (seqObj "tuple" vs.toArray 0)).push (seqObj "list" #[] 0)).get? L=some (seqObj "list" #[] e1):=Ax _ _ _ (Ax _ _ _ ho1)
  have k6:∀b o,b≠L→s.heap.get? b=some o→(((s.heap.update L (Obj.mapSeq fun _=>(#[]:Array Value))).push (seqObj "tuple" vs.toArray 0)).push (seqObj "list" #[] 0)).get? b=some o:=fun b o hb e=>Ax _ _ _ (Ax _ _ _ ((s1.2 b hb).trans e))
  rw[list_sort_plain]
  refine wpAny_bind (listItems_at ho rfl ?_)
  refine wpAny_bind (listUpdate_at ho rfl ?_ (by rw[List.size_toArray,sizeLine_eq]; omega) (Nat.zero_le _))
  refine wpAny_bind (seqEpoch_at ho1 rfl ?_)
  refine wpAny_bind (wpAny_newTuple ?_ (by show vs.length≤_; rw[sizeLine_eq]; omega))
  refine wpAny_bind (wpAny_newList ?_ (Nat.zero_le _))
  refine wpAny_holding ?_
  show wpAny _ A _ P E { s with heap:=((s.heap.update L (Obj.mapSeq fun _=> #[])).push (seqObj "tuple" vs.toArray 0)).push (seqObj "list" #[] 0) }
  dsimp only
  generalize hH:((s.heap.update L (Obj.mapSeq fun _=>(#[]:Array Value))).push (seqObj "tuple" vs.toArray 0)).push (seqObj "list" #[] 0)=H at ho6 k6 ⊢
  have fin:∀(p:Array Nat) (out:Array Value),Ca vs.length p→ES r p vs.length→out=(Fg vs p).toArray→
      wpAny (model B.prog B.w) A (Builtin.List.listUpdate (.ref L) (fun _=>out) >>= fun _=>(ret .none:Sem PySem.Fin)) P E { s with heap:=H }:=by
    intro p out hg hu hout
    subst hout
    have hsz:(Fg vs p).toArray.size=vs.length:=by rw[List.size_toArray,List.length_map,Array.length_toList,hg.size]
    refine wpAny_bind (listUpdate_at (s:={ s with heap:=H }) ho6 rfl ?_ (Nat.zero_le _) (by rw[hsz,sizeLine_eq]; omega))
    have s2:=Heap.SameBut.update H L (Obj.mapSeq fun _=>(Fg vs p).toArray)
    refine wpAny_pure (h p _ hg hu (fun b o hb e=>(s2.2 b hb).trans (k6 b o hb e)) ⟨_,get?_update_seq ho6 fun _=>(Fg vs p).toArray⟩)
  by_cases h2:vs.toArray.size<2
  · rw[if_pos h2,if_pos h2]
    refine wpAny_bind (wpAny_pure ?_)
    rw[StateT.run_pure]
    refine wpAny_bind (wpAny_pure ?_)
    dsimp only
    refine wpAny_bind (seqEpoch_at (s:={ s with heap:=H }) ho6 rfl ?_)
    simp only[bne_self_eq_false,Bool.false_eq_true,if_false]
    have hl2:vs.length<2:=by simpa using h2
    have hout:(arrOf (SortSt.mk' general' (vs.toArray.zip vs.toArray) #[] 7 none)).map (·.2)=(Fg vs (List.toArray (List.range vs.length))).toArray:=by
      rw[RW]
      show(vs.toArray.zip vs.toArray).map (·.2)=vs.toArray
      apply Array.toList_inj.mp
      simp[List.zip_map_right,List.map_snd_zip]
    refine wpAny_mono (fin (List.toArray (List.range vs.length)) _ Ca.range (fun i j hij hj=>?_) hout) (fun _ _ q=>q) fun _ _ q=>q
    have:i=j:=by omega
    subst this; exact KeyOrd.kle_refl _
  · rw[if_neg h2,if_neg h2]
    have hl2:2≤vs.length:=by simpa using h2
    obtain⟨κ,hkind,hask⟩:=S.ask hl2
    have kH:∀b o,h0.get? b=some o→H.get? b=some o:=fun b o e=>k6 b o (hk b o e).1 (hk b o e).2
    refine wpAny_bind (hkind _ { s with heap:=H } _ kH ?_)
    refine wpAny_bind (wpAny_mono (kat_run (A:=A) (s:={ s with heap:=H }) (κ:=κ) (ks:=vs) (vs:=vs) (G:=fun p s'=>s'={ s with heap:=H }∧Ca vs.length p∧ES r p vs.length)
      (Q:=fun st' s'=>s'={ s with heap:=H }∧∃p:Array Nat,Ca vs.length p∧ES r p vs.length∧arrOf st'=p.map (kas_item (vs.toArray.zip vs.toArray))∧failedOf st'=none)
      rfl hl2 h64 (fun p st' s' a1 a2 a3 a4=>⟨a4.1,p,a4.2.1,a4.2.2,a2,a3⟩)
      (O5 (s:={ s with heap:=H }) (fun i j C hij hC=>hask _ i j C kH hij hC) (fun p hp=>⟨rfl,hp⟩) (VI (O:=O) (r:=r) (by omega)))) ?_ fun _ _ e=>e)
    rintro⟨⟨⟩,st'⟩ s' ⟨rfl,p,hg,hu,har,hf⟩
    dsimp only
    refine wpAny_bind (seqEpoch_at (s:={ s with heap:=H }) ho6 rfl ?_)
    rw[hf]
    simp only[bne_self_eq_false,Bool.false_eq_true,if_false]
    refine wpAny_mono (fin p _ hg hu ?_) (fun _ _ q=>q) fun _ _ q=>q
    exact kat_snds rfl har
theorem Pb {v:Value}{vs:List Value}{O:KeyOrd}{r:Nat→O.α}{Q:Value→Shared→Prop}
    (hcol:∀Q':List Value→Shared→Prop,(∀h' tk,(∀b o,s.heap.get? b=some o→h'.get? b=some o)→Q' vs { s with heap:=h',toks:=tk })→wpAny (model B.prog B.w) A.in1 (collect v) Q' E s)
    (S:SortOf B A.in1.in1 s.heap vs O r) (h64:vs.length<64)
    (hq:∀(p:Array Nat) (h1 h':Heap) (tk:Nat),Ca vs.length p→ES r p vs.length→(∀b o,s.heap.get? b=some o→h1.get? b=some o)→(∀b o,h1.get? b=some o→h'.get? b=some o)→h'.PlainList h1.objs.size (Fg vs p).toArray→Q (.ref h1.objs.size) { s with heap:=h',toks:=tk }):
    wpAny (model B.prog B.w) A (call (.builtin "sorted") [v]) Q E s:=by
  refine Calls.call_function_entry kind_sorted plain_sorted entry_sorted (args_sorted1 _) ?_
  unfold Builtin.«sorted»
  refine wpAny_bind (m:=checkCount "sorted" 1 1 _) (wpAny_pure ?_)
  refine wpAny_bind (hcol _ fun h1 tk k1=>?_)
  refine wpAny_bind (wpAny_newList (s:={ s with heap:=h1,toks:=tk }) ?_ (by rw[sizeLine_eq]; omega))
  have hoL:(h1.push (seqObj "list" vs.toArray 0)).get? h1.objs.size=some (seqObj "list" vs.toArray 0):=Heap.get?_push_size _ rfl
  refine wpAny_bind (wpAny_holding (wpAny_call_entry slot_list_sort ⟨_,hoL,rfl⟩ entry_list_sort (UD (L:=h1.objs.size) s.heap (fun b o e=>⟨Nat.ne_of_lt (Heap.lt_size (k1 b o e)),Ax _ _ _ (k1 b o e)⟩) S hoL h64 fun p h' hg hu hk hl=>⟨_,rfl,?_⟩) (args_list_sort _)))
  exact wpAny_pure ⟨_,rfl,hq p h1 h' tk hg hu k1 (fun b o e=>hk b o (Nat.ne_of_lt (Heap.lt_size e)) (Ax _ _ _ e)) hl⟩
end Mine
namespace Mine
open scoped Classical
open PySem PySem.W PySem.Calls PyProof.Rows
open Sem (wp)
variable {B:Base}{X Y:List Addr}{φ φ' φ1 φ2 φ0:Phi}{σ σ' σ1 σ₂ σ0:Hp}{h h' h₁ h₂:Heap}{s s' s1 s2 s0:Shared}{n:Nat}{sc:Scope}{env:Env}{ρ ρ':Rho}{A:Around}{E:Value→Shared→Prop}
theorem QN {d:Addr}{es:Array DictEntry}{ep:Nat}{Q:List Value→Shared→Prop}(lo:(d==sysModules)=false)(hh:A.handled=none)(hm:BM s.heap d es ep)(hn:es.size≤sizeLine)
    (hQ:∀h' tk,(∀b o,s.heap.get? b=some o→h'.get? b=some o)→Q (es.toList.map (·.key)) { s with heap:=h',toks:=tk }):wpAny (model B.prog B.w) A (collect (.ref d)) Q E s:=by
  have key:∀R:Result→Shared→Prop,(∀h' tk acc' c',(∀b o,s.heap.get? b=some o→h'.get? b=some o)→h'.get? s.heap.objs.size=some { cls:= .type "list",dict:=none,data:= .seq acc' c',slots:= #[] }→acc'.toList=es.toList.map (·.key)→
      R (.ok (.ret (.ref s.heap.objs.size))) { s with heap:=h',toks:=tk })→codeAny (model B.prog B.w) A (.builtin "proto.collect" ⟨[.ref d], []⟩) R s:=by
    intro R hR
    refine codeAny_builtin PySem.F.entry_proto_collect ?_
    rw[Around.under_plainId PySem.F.plain_proto_collect _]
    show wpAny _ A.in1 (newList [] >>= fun l=>again (.builtin "list.__iadd__" ⟨[l,.ref d], []⟩)) _ _ s
    refine wpAny_bind (wpAny_newObj_type ?_)
    refine wpAny_pure ⟨plainId_quiet PySem.F.plain_list_iadd _,codeAny_builtin PySem.F.entry_list_iadd ?_⟩
    rw[Around.under_plainId PySem.F.plain_list_iadd _]
    have hS:(s.heap.push { cls:= .type "list",data:= .seq #[] }).get? s.heap.objs.size=some { cls:= .type "list",data:= .seq #[] }:=Heap.get?_push_size _ rfl
    show wpAny _ A.in1 (Builtin.List.listExtendWith (.ref s.heap.objs.size) (.ref d) (.ref s.heap.objs.size)) _ _ { s with heap:=s.heap.push { cls:= .type "list",data:= .seq #[] } }
    have hm':BM (s.heap.push { cls:= .type "list",data:= .seq #[] }) d es ep:=hm.at' fun o e=>Ax _ _ _ e
    refine kdl_extend (R:=R) (s:={ s with heap:=s.heap.push { cls:= .type "list",data:= .seq #[] } }) (Su (B:=B) lo) hh hm' s.heap.objs.size (Nat.ne_of_gt hm.lt) (Nat.ne_of_gt hm.lt) (.ref s.heap.objs.size) 0 hS (fun h' tk acc' c' hk hS' hacc=>?_) hn
    refine hR h' tk acc' c' (fun b o q=>hk b o (Nat.ne_of_lt (Heap.lt_size q)) (Ax _ _ _ q)) hS' ?_
    refine List.ext_getElem? fun i=>?_
    by_cases hi:i<es.size
    · have hi':i<acc'.size:=by rw[hacc.1]; exact hi
      obtain⟨_,e2⟩:=hacc.2 i acc'[i] (by simp[hi'])
      simp[hi,hi',e2]
    · have hi':¬ i<acc'.size:=by rw[hacc.1]; exact hi
      simp[hi,hi']
  unfold collect
  refine wpAny_bind (wpAny_runValue (key _ fun h' tk acc' c' hk hS' e=>?_))
  show wpAny _ A (load s.heap.objs.size >>= _) _ _ _
  refine wpAny_bind (wpAny_load hS' ?_)
  refine wpAny_pure ?_
  show Q acc'.toList _
  rw[e]
  exact hQ h' tk hk
noncomputable def HU:KeyOrd where
  α:=Int
  blt a b:=decide (a<b)
  irrefl a:=by simp
  trans a b c h1 h2:=by simp only[decide_eq_true_eq] at *; omega
  negTrans a b c h:=by simp only[decide_eq_true_eq] at *; omega
  total a b h1 h2:=by simp only[decide_eq_false_iff_not] at *; omega
theorem UE {M:Model}{i:Int}{t:Tok}:Looks M h (typeOf (.int i t)) (.type "int"):=fun _ _ _ _ _ q=>wpAny_typeOf (typeIs_int _ _ _) q
theorem UF {M:Model}{x:Str}{t:Tok}:Looks M h (typeOf (.str x t)) (.type "str"):=fun _ _ _ _ _ q=>wpAny_typeOf (typeIs_str _ _ _) q
noncomputable def Cm:SV→Int
  | .int i=>i
  | _=>0
theorem CR {x:SV}(h:x.isInt=true):x= .int (Cm x):=by
  cases x <;> simp[SV.isInt,Cm] at h ⊢
theorem Ak.at_getD {xs:List SV}{vs:List Value}(q:Ak φ h xs vs){i:Nat}(hi:i<xs.length):Al φ h (xs.getD i .none) (vs.getD i .none):=by
  obtain⟨w,hw,r⟩:=q.get (i:=i) (x:=xs[i]) (by simp[hi])
  rw[List.getD_eq_getElem?_getD,List.getD_eq_getElem?_getD,hw]
  simpa [hi] using r
theorem LF {xs:List SV}{vs:List Value}(q:Ak φ h xs vs)(hx:xs.all SV.isInt=true):SortOf B A h vs HU (fun i=>Cm (xs.getD i .none)):=by
  have hlen:=q.length
  have at_:∀i,i<vs.length→∃t,vs.getD i .none= .int (Cm (xs.getD i .none)) t:=fun i hi=>by
    have r:=q.at_getD (i:=i) (by omega)
    have hm:xs.getD i .none∈xs:=by simp[List.getD_eq_getElem?_getD,show i<xs.length by omega]
    rw[CR (List.all_eq_true.mp hx _ hm)] at r
    simp only[Al] at r
    exact r
  refine⟨fun h2=>⟨oneType',fun E s' Q k hq=>kas_kind (T:= .type "int") h2 (fun v hv=>?_) (by decide) (by decide) hq,fun s' i j C k hij hC=>?_⟩⟩
  · obtain⟨i,hi,rfl⟩:=List.getElem_of_mem hv
    obtain⟨t,ht⟩:=at_ i hi
    have e:vs[i]= .int (Cm (xs.getD i .none)) t:=by rw[←ht]; simp[List.getD_eq_getElem?_getD,hi]
    rw[e]; exact UE
  · obtain⟨t,ht⟩:=at_ i hij.1
    obtain⟨u,hu⟩:=at_ j hij.2
    unfold kas_ask
    rw[ht,hu]
    exact kat_lt_int hC
theorem Pc {prog:Program}{w:World}{b fin res:Bool}{Q:Bool→Shared→Prop}:∀{l:List (Value×Value)} {i:Nat},0<i→Lf A s fin res l→Q res s→KatLex prog w A b fin Q l i s
  | [],_,_,e,hq=>by
    have e':res=fin:=e
    subst e'; exact kat_nil hq
  | (p,q)::r,i,hi,⟨e,h1,h2,h3⟩,hq=>by
    refine kat_cons (h1 prog w _ _ (kat_go (fun he=>kat_yes (Pc (Nat.succ_pos i) (h2 he) hq)) fun he=>kat_no ?_))
    have hf:(b&&i==0)=false:=by
      have:(i==0)=false:=by simpa using Nat.ne_of_gt hi
      rw[this,Bool.and_false]
    rw[hf,oneLt'_eq]
    simp only[Bool.false_eq_true,if_false]
    exact wpAny_bind (h3 he prog w _ _ (wpAny_truthy_bool hq))
theorem TD {prog:Program}{w:World}{n:Nat}{x y:SV}{v u:Value}{Q:Bool→Shared→Prop}(hu:A.units+2*n+4<cLine)(hx:x.isTree=true)(hy:y.isTree=true)(kx:x.isKeyD (n+1)=true)(ky:y.isKeyD (n+1)=true)
    (rx:Al [] s.heap x v) (ry:Al [] s.heap y u) (hq:Q (DK x y) s):wpAny (model prog w) A (keyLt' (tuples' true) v u) Q E s:=by
  obtain⟨a,ks,rfl,hk⟩:=De hx
  obtain⟨b,ls,rfl,hl⟩:=De hy
  simp only[Al] at rx ry
  obtain⟨p,items,rfl,⟨o,ho,hc,k,hd⟩,rx⟩:=rx
  obtain⟨q,items2,rfl,⟨o2,ho2,hc2,k2,hd2⟩,ry⟩:=ry
  refine kat_lt ho hd ho2 hd2 ?_
  have e:DK (.tup (.str a::ks)) (.tup (.str b::ls))=(Bp (.str a::ks) (.str b::ls)== .lt):=by unfold DK; rw[C3]
  rw[e] at hq
  simp only[Ak] at rx ry
  obtain⟨v,vs',hv,rx1,rx2⟩:=rx
  obtain⟨w',ws',hw,ry1,ry2⟩:=ry
  have rx1':=rx1
  have ry1':=ry1
  simp only[Al] at rx1' ry1'
  obtain⟨t,rfl⟩:=rx1'
  obtain⟨t',rfl⟩:=ry1'
  have e3:decide (items.size<items2.size)=decide (vs'.length<ws'.length):=by
    have h1:items.size=vs'.length+1:=by rw[←Array.length_toList,hv]; rfl
    have h2:items2.size=ws'.length+1:=by rw[←Array.length_toList,hw]; rfl
    rw[h1,h2]; simp
  rw[hv,hw,e3,List.zip_cons_cons]
  refine kat_cons (Mv (A:=A) (n:=n) (m:=n) (x:= .str a) (y:= .str b) (by simp[SV.isKeyD]) (by simp[SV.isKeyD]) rx1 ry1 (by omega) prog w _ _ (kat_go (fun he=>kat_yes ?_) fun he=>kat_no ?_))
  · have hab:a=b:=SV.str.inj (of_decide_eq_true he)
    subst hab
    have h1:Bp (.str a::ks) (.str a::ls)=Bp ks ls:=by simp only[Bp,C3,(DW _ _).mpr rfl]
    rw[h1] at hq
    exact Pc (Nat.succ_pos 0) (Ky (A:=A) (s:=s) (n:=n) (fun x y v w=>Pa n A s x y v w (by omega)) (by omega) ks ls vs' ws' hk hl (FD kx) (FD ky) rx2 ry2) hq
  show wpAny _ _ (oneLt' true _ _) _ _ _
  refine oneLt_str ?_
  have hne:a≠b:=fun hab=>of_decide_eq_false he (by rw[hab])
  have e5:(Bp (.str a::ks) (.str b::ls)== .lt)=(AU (Cb a) (Cb b)== .lt):=by
    simp only[Bp,C3]
    cases hc:AU (Cb a) (Cb b) with
    | eq=>exact absurd (JF ((DW _ _).mp hc)) hne
    | lt=>rfl
    | gt=>rfl
  rw[e5] at hq
  have e6:(decide ((Str.ofString a).cps.toList<(Str.ofString b).cps.toList))=(AU (Cb a) (Cb b)== .lt):=by
    rw[Bool.eq_iff_iff]
    simp only[decide_eq_true_eq,beq_iff_eq,Hx,Str.ofString_eq_toList]
    exact Iff.rfl
  rw[e6]; exact hq
theorem Nl:∀{xs:List SV} {vs:List Value},Ak φ h xs vs→(∀x,x∈xs→x.isTree=true)→∃fs,KatTups h vs fs∧fs.length=vs.length∧∀f,f∈fs→∃a t,f= .str a t
  | [],vs,q,_=>by
    simp only[Ak] at q; subst q
    exact⟨[],KatTups.nil,rfl,fun f hf=>by simp at hf⟩
  | x::xs,vs,q,hx=>by
    simp only[Ak] at q
    obtain⟨v,r,rfl,q1,q2⟩:=q
    obtain⟨fs,h1,h2,h3⟩:=Nl q2 fun y hy=>hx y (List.mem_cons_of_mem _ hy)
    obtain⟨a,ks,rfl,_⟩:=De (hx x List.mem_cons_self)
    simp only[Al] at q1
    obtain⟨p,items,rfl,⟨o,ho,hc,k,hd⟩,hv⟩:=q1
    simp only[Ak] at hv
    obtain⟨w,ws,hw,r1,_⟩:=hv
    simp only[Al] at r1
    obtain⟨t,rfl⟩:=r1
    refine⟨.str (Str.ofString a) t::fs,KatTups.cons ho hc hd ?_ h1,by simp[h2],fun f hf=>?_⟩
    · rw[←Array.getElem?_toList,hw]; rfl
    · rcases List.mem_cons.mp hf with rfl | hf
      · exact⟨_,_,rfl⟩
      · exact h3 f hf
theorem QO {xs:List SV}{vs:List Value}(hu:A.units+40<cLine)(q:Ak φ h xs vs)(hx:∀x,x∈xs→x.isTree=true∧x.isTupKey=true):SortOf B A h vs strKind.toKeyOrd (fun i=>code (xs.getD i .none)):=by
  have hlen:=q.length
  have mem:∀i,i<vs.length→xs.getD i .none∈xs:=fun i hi=>by simp[List.getD_eq_getElem?_getD,show i<xs.length by omega]
  obtain⟨fs,h1,h2,h3⟩:=Nl q fun x hxm=>(hx x hxm).1
  refine⟨fun hl2=>⟨tuples' true,fun E s' Q k hq=>?_,fun s' i j C k hij hC=>?_⟩⟩
  · have h1':KatTups s'.heap vs fs:=katTups_keep k h1
    refine kat_kind (T:= .type "str") h1' (by omega) (fun v hv=>?_) (by decide) ?_
    · obtain⟨a,t,rfl⟩:=h3 v hv; exact UF
    · rw[show(Value.type "str" != Value.type "tuple")=true by decide]; exact hq
  · unfold kas_ask
    have m1:=mem i hij.1
    have m2:=mem j hij.2
    have k1:(xs.getD i .none).isKeyD (DD+1)=true:=BY (hx _ m1).2
    have k2:(xs.getD j .none).isKeyD (DD+1)=true:=BY (hx _ m2).2
    have r1:=Th.1 _ _ k1 _ (Al.keep k (q.at_getD (i:=i) (by omega)))
    have r2:=Th.1 _ _ k2 _ (Al.keep k (q.at_getD (i:=j) (by omega)))
    refine TD (n:=DD) (by unfold DD; omega) (hx _ m1).1 (hx _ m2).1 k1 k2 r1 r2 ?_
    rw[Kw (hx _ m1).1 (hx _ m2).1]
    exact hC
where
  katTups_keep {h h':Heap} (k:∀b o,h.get? b=some o→h'.get? b=some o):∀{vs fs:List Value},KatTups h vs fs→KatTups h' vs fs
    | [], [],_=>trivial
    | [],_::_,q=>q.elim
    | _::_, [],q=>q.elim
    | _::_,_::_,⟨⟨a,o,xs,n,e,ho,hc,hd,hf⟩,r⟩=>⟨⟨a,o,xs,n,e,k _ _ ho,hc,hd,hf⟩,katTups_keep k r⟩
theorem LG {xs:List SV}{vs:List Value}{O:KeyOrd}{c:SV→O.α}{p:Array Nat}(q:Ak φ h xs vs)(hl:∀x y,x∈xs→y∈xs→DK x y=O.blt (c x) (c y))(hi:∀x y,x∈xs→y∈xs→c x=c y→x=y)
    (hg:Ca vs.length p) (hu:ES (O:=O) (fun i=>c (xs.getD i .none)) p vs.length):Ak φ h (AS xs) (Fg vs p):=by
  have hlen:=q.length
  have hp:p.toList.Perm (List.range vs.length):=by
    have:=Array.Perm.toList hg
    simpa using this
  have hys:AS xs=p.toList.map (fun i=>xs.getD i .none):=by
    refine LE hl hi ?_ ?_
    · have e:(List.range vs.length).map (fun i=>xs.getD i .none)=xs:=by
        refine List.ext_getElem? fun i=>?_
        by_cases hi:i<vs.length
        · simp[hi,List.getD_eq_getElem?_getD,show i<xs.length by omega]
        · simp[hi,show ¬ i<xs.length by omega]
      exact(hp.map _).trans (by rw[e])
    · rw[List.pairwise_iff_getElem]
      intro i j hi hj hij
      have hs:p.toList.length=vs.length:=by rw[Array.length_toList]; exact hg.size
      have hi':i<p.size:=by simpa using hi
      have hj':j<p.size:=by simpa using hj
      have:=hu i j (by omega) (by have:=hg.size; omega)
      unfold AO at this
      simp only[Array.getD,hi',hj',dif_pos] at this
      simpa using this
  rw[hys]
  have all:∀l:List Nat,(∀i,i∈l→i<vs.length)→Ak φ h (l.map fun i=>xs.getD i .none) (l.map fun i=>vs.getD i .none):=by
    intro l
    induction l with
    | nil=>intro _; exact Ak.nil'.mpr rfl
    | cons a l ih=>
      intro hm
      exact Ak.cons'.mpr ⟨q.at_getD (by have:=hm a List.mem_cons_self; omega),ih fun i hi=>hm i (List.mem_cons_of_mem _ hi)⟩
  exact all p.toList fun i hi=>by simpa using hp.mem_iff.mp hi
theorem HV (a b:Int):DK (.int a) (.int b)=decide (a<b):=by
  unfold DK
  rw[C3]
  rw[Bool.eq_iff_iff]
  simp only[beq_iff_eq,decide_eq_true_eq]
  by_cases h1:a<b
  · simp[h1]
  · by_cases h2:b<a <;> simp[h1,h2]
theorem UG:TB1 B (.builtin "sorted") fun v σ=>BP (Ee v σ) fun xs=>if EX xs then newObj (.list (AS xs)) σ else none:=by
  intro A E s φ σ x v y σ' R I r h
  refine CH h fun xs hx h=>gif h fun hs h=>spair h ?_
  have hs:=(Bool.and_eq_true _ _).mp hs
  have h64:=of_decide_eq_true hs.1
  have hs:=(Bool.or_eq_true _ _).mp hs.2
  have hu:A.in1.in1.units+40<cLine:=by show A.units+1+1+40<cLine; have:=R.units; omega
  have col:∃vs,Ak φ s.heap xs vs∧∀Q':List Value→Shared→Prop,(∀h' tk,(∀b o,s.heap.get? b=some o→h'.get? b=some o)→Q' vs { s with heap:=h',toks:=tk })→wpAny (model B.prog B.w) A.in1 (collect v) Q' E s:=by
    refine Iz hx (fun l e hl=>?_) fun l kvs ver e hl e2=>?_
    · obtain⟨a,items,e3,hφ,hi,hv,hz⟩:=I.list_at hl (e▸r)
      refine⟨items.toList,hv,fun Q' hq=>e3▸collect_list (vs:=items.toList) hi (hq _ _ fun b o e=>?_) (by have:=hv.length; rw[sizeLine_eq]; omega)⟩
      exact(Heap.get?_update_other _ _ (Ne.symm (Nat.ne_of_lt (Heap.lt_size e)))).trans (Ax _ _ _ e)
    · obtain⟨a,e3,hφ,hd,hz⟩:=I.dict_at hl (e▸r)
      obtain⟨es,ep,hR,h1,h2⟩:=hd.raw
      refine⟨es.toList.map (·.key),e2▸h1,fun Q' hq=>e3▸QN (I.mods a (BL hφ List.mem_cons_self)) R.handled hR (by have:=h1.length; simp only[List.length_map,Array.length_toList] at this; unfold lim at hz; unfold sizeLine; omega) hq⟩
  obtain⟨vs,hv,hcol⟩:=col
  have hlen:=hv.length
  have fin:∀{O:KeyOrd} (c:SV→O.α),(∀x y,x∈xs→y∈xs→DK x y=O.blt (c x) (c y))→(∀x y,x∈xs→y∈xs→c x=c y→x=y)→SortOf B A.in1.in1 s.heap vs O (fun i=>c (xs.getD i .none))→
      wpAny (model B.prog B.w) A (call (.builtin "sorted") [v]) (BO B [] φ σ s.heap (.loc σ.length) (σ ++ [.list (AS xs)])) E s:=by
    intro O c hl hi S
    refine Pb hcol S (by omega) fun p h₁ h' tk hg hup k₁ k₂ hL=>?_
    have I1:Inv B φ σ { s with heap:=h₁ }:=I.keep k₁ rfl rfl
    have hv':Ak φ h' (AS xs) (Fg vs p):=LG (hv.keep fun b o e=>k₂ b o (k₁ b o e)) hl hi hg hup
    exact(Fu (X:= []) (s:={ s with heap:=h₁ }) (s':={ s with heap:=h',toks:=tk }) I1 k₂ (Nat.le_refl _) hL hv' (by have:=(CI xs).length_eq; unfold lim; omega)).then (.keep k₁)
  refine hs.elim (fun hs=>?_) fun hs=>?_
  · have at_:=fun x hx=>CR (List.all_eq_true.mp hs x hx)
    refine fin (O:=HU) Cm (fun x y hx hy=>?_) (fun x y hx hy e=>(at_ x hx).trans (e▸(at_ y hy).symm)) (LF hv hs)
    rw[at_ x hx,at_ y hy]; exact HV _ _
  · have ht:∀x,x∈xs→x.isTree=true∧x.isTupKey=true:=fun x hx=>(Bool.and_eq_true _ _).mp (List.all_eq_true.mp hs x hx)
    exact fin (O:=strKind.toKeyOrd) code (fun x y hx hy=>Kw (ht x hx).1 (ht y hy).1) (fun x y hx hy e=>QL (ht x hx).1 (ht y hy).1 e) (QO hu hv ht)
theorem Ei {e:Expr}{m:Ev}{np pos:Pos}(ok:BuiltinOK B sc "sorted" (.builtin "sorted"))(he:Av B n sc e m)
    (hs:Cl e=true:=by rfl) (hst:∀env pos,(backTo pos (starEach [e] env)).any (·.1)=false:=by intro _ _; rfl):
    Av B n sc (.Call (.Name (Str.ofString "sorted") np) [e] [] pos) (DA m):=E4 ok (.inr ⟨_,rfl⟩) UG he hs hst
end Mine
namespace Mine
open scoped Classical
open PySem PySem.W PySem.Calls PyProof.Rows
theorem UH {xs:Array Nat}(h:xs.size=0)(j:Nat):SetTable.below xs j=0:=by
  unfold SetTable.below; rw[h]; rfl
theorem Ij {xs:Array Nat}(h:xs.size=1)(j:Nat):SetTable.below xs j=if xs.getD 0 0<j then 1 else 0:=by
  unfold SetTable.below
  rw[h]
  show(if 0<1 then(if xs.getD ((0+1) / 2) j<j then _ else _) else _)=_
  have e:xs.getD 0 j=xs.getD 0 0:=by
    have h0:0<xs.size:=by omega
    simp[Array.getD,h0]
  rw[if_pos (by decide)]
  show(if xs.getD 0 j<j then SetTable.below.go xs j 0 1 1 else SetTable.below.go xs j 0 0 0)=_
  rw[e]; rfl
theorem Pd {a b j:Nat}:SetTable.below #[a,b] j=if b<j then 2 else if a<j then 1 else 0:=by
  have g1:(#[a,b]:Array Nat).getD 1 j=b:=rfl
  have g0:(#[a,b]:Array Nat).getD 0 j=a:=rfl
  have s2:(#[a,b]:Array Nat).size=2:=rfl
  unfold SetTable.below
  rw[s2]
  by_cases h:b<j
  · simp[SetTable.below.go,g1,g0,h]
  · by_cases h2:a<j
    · simp[SetTable.below.go,g1,g0,h,h2]
    · simp[SetTable.below.go,g1,g0,h,h2]
theorem Nm {α:Type}:∀{l:List α} {i:Nat} (h:i<l.length),(l[i]::l.eraseIdx i).Perm l
  | x::l,0,_=> .refl _
  | x::l,i+1,h=>by
    have ih:=Nm (l:=l) (i:=i) (by simpa using h)
    simp only[List.getElem_cons_succ,List.eraseIdx_cons_succ]
    exact(List.Perm.swap _ _ _).trans (ih.cons x)
structure TabOK (t:SetTable) (n:Nat):Prop where
  size:t.place.size=n
  dummies:t.dummies= #[]
  mask:t.mask=7
  plain:t.plain=true
  rising:∀a b,t.place= #[a,b]→a<b
theorem Sz {t:SetTable}(h:t.dummies= #[])(j:Nat):t.slot j=if(t.place[SetTable.below t.place j]? == some j)=true then .live (SetTable.below t.place j) else .empty:=by
  unfold SetTable.slot
  have e:SetTable.has t.dummies j=false:=by rw[h]; rfl
  simp only[e,Bool.false_eq_true,if_false]
theorem Pe {α:Type}{xs:Array α}(h:xs.size=1):∃a,xs= #[a]:=by
  obtain⟨l⟩:=xs
  match l,h with
  | [a],_=>exact⟨a,rfl⟩
theorem Mw {t:SetTable}{a j:Nat}(hd:t.dummies= #[])(hp:t.place= #[a]):t.slot j=if j=a then .live 0 else .empty:=by
  rw[Sz hd,Ij (by rw[hp]; rfl),hp]
  show(if(((#[a]:Array Nat)[if a<j then 1 else 0]?)==some j)=true then _ else _)=_
  by_cases q:a<j
  · have e1:(#[a]:Array Nat)[1]? =none:=rfl
    have e2:¬ j=a:=by omega
    simp[q,e1,e2]
  · simp only[if_neg q]
    show(if(some a==some j)=true then _ else _)=_
    by_cases e:j=a
    · subst e; simp
    · have:¬ a=j:=fun w=>e w.symm
      simp[e,this]
theorem UI {t:SetTable}{j:Nat}(hd:t.dummies= #[])(hp:t.place.size=0):t.slot j= .empty:=by
  have:t.place= #[]:=Array.eq_empty_of_size_eq_zero hp
  rw[Sz hd,this]; rfl
theorem PO {t:SetTable}(hm:t.mask=7)(p:SetTable.Probe)(hp:p.more=0):t.advance p={ p with j:=(p.i*5+1+p.perturb / 32) % 8,more:=0,i:=(p.i*5+1+p.perturb / 32) % 8,perturb:=p.perturb / 32 }:=by
  unfold SetTable.advance
  rw[if_neg (by omega)]
  simp only[SetTable.leap,hm]
  have:SetTable.runEnd 7 ((p.i*5+1+p.perturb / 32) % (7+1))=(p.i*5+1+p.perturb / 32) % (7+1):=by
    unfold SetTable.runEnd; rw[if_neg (by omega)]
  rw[this]; simp
theorem QP {t:SetTable}{a:Nat}(hd:t.dummies= #[])(hm:t.mask=7)(hp:t.place= #[a]){h:Int}:∀(f:Nat) (p:SetTable.Probe),p.more=0→p.j=p.i→p.i<8→p.dummy=none→p.perturb<32^f→
    ∃j,SetTable.probe.go t (fun _=>h+1) h (f+2) p=some (.empty j none)∧t.slot j= .empty
  | f,p,h1,h2,h3,h4,h5=>by
    have one:∀(g:Nat) (p:SetTable.Probe),p.dummy=none→p.j≠a→SetTable.probe.go t (fun _=>h+1) h (g+1) p=some (.empty p.j none)∧t.slot p.j= .empty:=by
      intro g p hdm hne
      have e:=Mw (j:=p.j) hd hp
      rw[if_neg hne] at e
      refine⟨?_,e⟩
      unfold SetTable.probe.go
      rw[e]; simp only[hdm]
    by_cases q:p.j=a
    · have e:=Mw (j:=p.j) hd hp
      rw[if_pos q] at e
      have step:SetTable.probe.go t (fun _=>h+1) h (f+2) p=SetTable.probe.go t (fun _=>h+1) h (f+1) (t.advance p):=by
        conv=>lhs; unfold SetTable.probe.go
        rw[e]
        have:(h+1==h)=false:=by
          rw[beq_eq_false_iff_ne]; omega
        simp only[this,Bool.false_eq_true,if_false]
      rw[step,PO hm p h1]
      cases f with
      | zero=>
        have hz:p.perturb=0:=by simpa using h5
        obtain⟨r1,r2⟩:=one 0 { p with j:=(p.i*5+1+p.perturb / 32) % 8,more:=0,i:=(p.i*5+1+p.perturb / 32) % 8,perturb:=p.perturb / 32 } h4 (by
          show(p.i*5+1+p.perturb / 32) % 8≠a
          rw[hz]; omega)
        exact⟨_,r1,r2⟩
      | succ f=>
        exact QP hd hm hp f { p with j:=(p.i*5+1+p.perturb / 32) % 8,more:=0,i:=(p.i*5+1+p.perturb / 32) % 8,perturb:=p.perturb / 32 } rfl rfl (Nat.mod_lt _ (by decide)) h4 (by
          show p.perturb / 32<32^f
          rw[Nat.pow_succ] at h5; omega)
    · obtain⟨r1,r2⟩:=one (f+1) p h4 q
      exact⟨_,r1,r2⟩
theorem Oe {t:SetTable}{n:Nat}(T:TabOK t n)(hn:n≤1)(h:Int):∃j,t.freeSlot h=some (j,false)∧t.slot j= .empty:=by
  have start:(t.probeStart h).more=0∧(t.probeStart h).j=(t.probeStart h).i∧(t.probeStart h).i<8∧(t.probeStart h).dummy=none∧(t.probeStart h).perturb<32^13:=by
    unfold SetTable.probeStart
    simp only[T.mask]
    refine⟨?_,trivial,Nat.mod_lt _ (by decide),trivial,?_⟩
    · have:SetTable.runEnd 7 (SetTable.bits h % (7+1))=SetTable.bits h % (7+1):=by unfold SetTable.runEnd; rw[if_neg (by omega)]
      rw[this]; omega
    · unfold SetTable.bits
      have:=Int.emod_lt_of_pos h (show(0:Int)<2^64 by decide)
      have h2:=Int.emod_nonneg h (show(2^64:Int)≠0 by decide)
      have:(h % 2^64).toNat<2^64:=by omega
      exact Nat.lt_of_lt_of_le this (by decide)
  obtain⟨s1,s2,s3,s4,s5⟩:=start
  have key:∃j,t.probe (fun _=>h+1) h (t.probeStart h)=some (.empty j none)∧t.slot j= .empty:=by
    unfold SetTable.probe
    have ht:10*SetTable.turns t.mask=218+2:=by rw[T.mask]; rfl
    rw[ht]
    rcases Nat.lt_or_ge n 1 with h0 | h0
    · have hz:t.place.size=0:=by rw[T.size]; omega
      have e:=UI (j:=(t.probeStart h).j) T.dummies hz
      refine⟨_,?_,e⟩
      unfold SetTable.probe.go
      rw[e]; simp only[s4]
    · obtain⟨a,ha⟩:=Pe (xs:=t.place) (by rw[T.size]; omega)
      exact QP T.dummies T.mask ha 218 (t.probeStart h) s1 s2 s3 s4 (Nat.lt_of_lt_of_le s5 (Nat.pow_le_pow_right (by decide) (by decide)))
  obtain⟨j,hj,he⟩:=key
  refine⟨j,?_,he⟩
  unfold SetTable.freeSlot
  rw[hj]; rfl
theorem Mx {t:SetTable}{n:Nat}(T:TabOK t n)(hn:n≤2):t.fits n=true:=by
  unfold SetTable.fits SetTable.fill
  rw[T.size,T.dummies,T.mask]
  simp; omega
theorem QQ {t:SetTable}{es:Array (Int×Value)}{h:Int}{x:Value}(T:TabOK t es.size)(hn:es.size≤1):
    TabOK (layNew t es h x).2.1 (es.size+1)∧(layNew t es h x).2.1.led=t.led∧(layNew t es h x).2.2.1=false:=by
  obtain⟨slot,hf,he⟩:=Oe T hn h
  unfold layNew
  rw[hf]
  dsimp only
  have hhas:SetTable.has t.dummies slot=false:=by rw[T.dummies]; rfl
  have e1:(t.put slot).1={ t with place:=SetTable.insertAt t.place (SetTable.below t.place slot) slot,dummies:=t.dummies }:=by
    unfold SetTable.put
    simp only[hhas,Bool.false_eq_true,if_false]
  have hsz:(SetTable.insertAt es (t.put slot).2 (h,x)).size=es.size+1:=by
    have:=(SetTable.insertAt_perm es (t.put slot).2 (h,x)).length_eq
    simpa using this
  have key:TabOK (t.put slot).1 (es.size+1):=by
    rw[e1]
    have psz:(SetTable.insertAt t.place (SetTable.below t.place slot) slot).size=es.size+1:=by
      have:=(SetTable.insertAt_perm t.place (SetTable.below t.place slot) slot).length_eq
      have h2:=T.size
      simp at this; omega
    refine⟨psz,T.dummies,T.mask,T.plain,fun a b hab=>?_⟩
    rcases Nat.lt_or_ge es.size 1 with h0 | h0
    · dsimp only at hab; rw[hab] at psz; simp at psz; omega
    · obtain⟨c,hc⟩:=Pe (xs:=t.place) (by rw[T.size]; omega)
      have hs:=Mw (j:=slot) T.dummies hc
      have hne:slot≠c:=by
        intro q; rw[if_pos q,he] at hs; cases hs
      dsimp only at hab
      rw[Ij (by rw[hc]; rfl),hc] at hab
      have g0:(#[c]:Array Nat).getD 0 0=c:=rfl
      rw[g0] at hab
      by_cases q:c<slot
      · rw[if_pos q] at hab
        have:SetTable.insertAt #[c] 1 slot= #[c,slot]:=rfl
        rw[this] at hab
        simp at hab
        omega
      · rw[if_neg q] at hab
        have:SetTable.insertAt #[c] 0 slot= #[slot,c]:=rfl
        rw[this] at hab
        simp at hab
        omega
  have or:(t.put slot).1.orStandIn (SetTable.insertAt es (t.put slot).2 (h,x)).size=(t.put slot).1:=by
    unfold SetTable.orStandIn
    rw[hsz,if_pos (Mx key (by omega))]
  rw[or]
  exact⟨key,by rw[e1],rfl⟩
theorem RX {t:SetTable}{n:Nat}(T:TabOK t n)(hn:n≤2):t.tooFull=false:=by
  unfold SetTable.tooFull SetTable.fill
  rw[T.dummies,T.mask,T.size]
  simp only[decide_eq_false_iff_not,List.size_toArray,List.length_nil]
  omega
theorem Pf {α:Type}(next:Nat→Nat):∀(f k:Nat) (left:List α) (out:Array α),left.length=f→(pickOrder.go next f k left out).toList.Perm (out.toList++left)
  | 0,k,left,out,h=>by
    have:left= []:=List.eq_nil_of_length_eq_zero h
    subst this
    simp[pickOrder.go]
  | f+1,k,left,out,h=>by
    have hm:next k % left.length<left.length:=Nat.mod_lt _ (by omega)
    unfold pickOrder.go
    rw[List.getElem?_eq_getElem hm]
    dsimp only
    refine(Pf next f (k+1) _ _ (by rw[List.length_eraseIdx]; simp[hm]; omega)).trans ?_
    rw[Array.toList_push,List.append_assoc]
    refine List.Perm.append_left _ ?_
    exact Nm hm
theorem Of {α:Type}(next:Nat→Nat)(xs:Array α):(pickOrder next xs).toList.Perm xs.toList:=by
  unfold pickOrder
  have:=Pf next xs.size 0 xs.toList #[] (by simp)
  simpa using this
end Mine
namespace Mine
open scoped Classical
open PySem PySem.W PySem.Calls PyProof.Rows PySem.Spec
section
variable {prog:Program}{w:World}{A:Around}{E:Value→Shared→Prop}{s:Shared}
noncomputable def Gh (prog:Program)(w:World)(h:Heap)(a:Addr)(S:Int→Bool)(n:Nat):Prop:=
  ∃es ep t,h.get? a=some { cls:= .type "set",dict:=none,data:= .set es ep t }∧ElemsOf (intKind prog w) es.toList∧(∀k,S k=true↔∃e∈es.toList,(intKind prog w).is k e.2=true)∧es.size=n∧n≤2∧TabOK t n∧t.led=!w.params.followText "set-order"
theorem Gh.keep {h h':Heap}{a:Addr}{S:Int→Bool}{n:Nat}(x:Gh prog w h a S n)(k:∀o,h.get? a=some o→h'.get? a=some o):Gh prog w h' a S n:=by
  obtain⟨es,ep,t,ho,r⟩:=x
  exact⟨es,ep,t,k _ ho,r⟩
theorem Gh.congr {h:Heap}{a:Addr}{S S':Int→Bool}{n n':Nat}(x:Gh prog w h a S n)(e:∀k,S k=S' k)(en:n=n'):Gh prog w h a S' n':=by
  have:S=S':=funext e
  subst this; subst en; exact x
theorem WB (b:Bool){Q:Unit→Shared→Prop}(h:Q () s):wpAny (model prog w) A (match b with | true=>rule "set.scan.the-table-gave-way" | false=>pure ()) Q E s:=by
  cases b
  · exact wpAny_pure h
  · exact wpAny_rule h
theorem VL {a:Addr}{S:Int→Bool}{n:Nat}{k:Int}{tk:Tok}{Q:Bool→Shared→Prop}(x:Gh prog w s.heap a S n)(room:S k=false→n≤1)
    (h:∀h',Heap.SameBut a s.heap h'→Gh prog w h' a (fun k'=>S k' || decide (k'=k)) (if S k then n else n+1)→Q (!S k) { s with heap:=h' }):
    wpAny (model prog w) A (setAddHashed a (.int k tk) ((intKind prog w).hash k)) Q E s:=by
  obtain⟨es,ep,t,ho,hel,hmem,hn,h2,T,hled⟩:=x
  have hkey:(intKind prog w).is k (.int k tk)=true:=intKind_is _ _ _ _
  have hsc:(Value.int k tk).scannable=true:=rfl
  have hb:es.size<scanBound:=by unfold scanBound; omega
  have hf:t.fits es.size=true:=by rw[hn]; exact Mx T h2
  unfold setAddHashed setAddHashedIn
  refine wpAny_holding (wpAny_bind (wpAny_setState_of ho rfl hf ?_))
  dsimp only
  rw[byScan_of hsc hb hel]
  simp only[if_true]
  unfold setAddByScan
  refine wpAny_bind (wpAny_bind (wpAny_rule (wpAny_bind (wpAny_setScan_of hkey ho rfl hf hel ?_))))
  cases hr:List.findIdx? (fun e=>(intKind prog w).is k e.2) es.toList with
  | some j=>
    dsimp only
    obtain⟨hj,hpj,_⟩:=List.findIdx?_eq_some_iff_getElem.mp hr
    have hSk:S k=true:=(hmem k).mpr ⟨es.toList[j],List.getElem_mem hj,hpj⟩
    refine wpAny_pure (wpAny_pure ?_)
    have e:s={ s with heap:=s.heap }:=rfl
    have:=h s.heap (Heap.SameBut.refl a s.heap) ⟨es,ep,t,ho,hel,fun k'=>by
      rw[Bool.or_eq_true,decide_eq_true_eq, ←hmem k']
      exact⟨fun q=>q.elim id fun e=>e▸hSk,.inl⟩,by rw[hSk]; exact hn,by rw[hSk]; exact h2,by rw[hSk]; exact T,hled⟩
    rw[hSk] at this; exact this
  | none=>
    dsimp only
    have hSk:S k=false:=by
      cases hk:S k with
      | false=>rfl
      | true=>
        obtain⟨e,he,hp⟩:=(hmem k).mp hk
        have:=List.findIdx?_eq_none_iff.mp hr e he
        rw[hp] at this; cases this
    have n1:=room hSk
    obtain⟨l1,l2,l3⟩:=QQ (t:=t) (es:=es) (h:=(intKind prog w).hash k) (x:= .int k tk) (by rw[hn]; exact T) (by omega)
    have hperm:=layNew_perm t es ((intKind prog w).hash k) (.int k tk)
    generalize hL:layNew t es ((intKind prog w).hash k) (.int k tk)=Lx at l1 l2 l3 hperm ⊢
    obtain⟨es1,t1,wasDummy,gave⟩:=Lx
    dsimp only at l1 l2 l3 hperm ⊢
    rw[Array.toList_push] at hperm
    have hel1:ElemsOf (intKind prog w) es1.toList:=(hel.push hkey hsc).perm hperm
    have hmem1:=mem_push_iff hkey hmem hperm
    have hsz1:es1.size=n+1:=by rw[←Array.length_toList,hperm.length_eq,List.length_append,Array.length_toList,hn]; rfl
    refine wpAny_bind (WB gave ?_)
    have hplain:t1.plain=true:=l1.plain
    simp only[hplain,if_true]
    refine wpAny_bind ?_
    rw[hashByValue_scannable 8 hsc]
    have full:t1.tooFull=false:=RX l1 (by omega)
    have fin:wpAny (model prog w) A (do
        storeSet a es1 t1
        if(!wasDummy&&t1.tooFull)=true then do
            (match (relayAll t1 es1 (SetTable.grown es1.size)).2.2 with | true=>rule "set.scan.the-table-gave-way" | false=>pure ())
            storeSet a (relayAll t1 es1 (SetTable.grown es1.size)).1 (relayAll t1 es1 (SetTable.grown es1.size)).2.1
            pure (some true)
          else pure (some true)) (fun r s'=>wpAny (model prog w) A (match r with | some added=>pure added | none=>setAddHashedIn a (.int k tk) ((intKind prog w).hash k) 99999) Q E s') E s:=by
      refine wpAny_bind (wpAny_storeSet_of ho rfl ?_ (by rw[hsz1,sizeLine_eq]; omega))
      rw[full,Bool.and_false]
      simp only[Bool.false_eq_true,if_false]
      have hg:(s.heap.update a (Obj.putSet es1 t1)).get? a=some { cls:= .type "set",dict:=none,data:= .set es1 (ep+1) t1 }:=by
        have:=Heap.get?_update_self (Obj.putSet es1 t1) ho (by rw[putSet_of es1 t1 rfl]; rfl)
        rw[putSet_of es1 t1 rfl] at this; exact this
      have:=h _ (Heap.SameBut.update s.heap a (Obj.putSet es1 t1)) ⟨es1,ep+1,t1,hg,hel1,hmem1,by rw[hSk]; exact hsz1,by rw[hSk]; simp; omega,by rw[hSk]; rw[hn] at l1; exact l1,by rw[l2]; exact hled⟩
      rw[hSk] at this
      exact wpAny_pure (wpAny_pure this)
    exact wpAny_pure fin
theorem UJ {R:Result→Shared→Prop}{I:Addr}{fp wr:List Addr}{G:Array GenState→Array GenState→Prop}{n:Nat}{P:Nat→Value→Prop}{St:Nat→Shared→Prop}
    (W:WalksS prog w A.in1 I fp wr G n P St) (S:Addr) (hSf:S∉fp) (val:Nat→Int) (hval:∀i v,P i v→∃t,v= .int (val i) t) (hn:n≤2):
    ∀(k i:Nat) (s:Shared),n-i=k→i≤n→St i s→Gh prog w s.heap S (fun k'=>(firstMet val i).any (· == k')) (firstMet val i).length→
      (∀s',Moved (S::wr) G s s'→Gh prog w s'.heap S (fun k'=>(firstMet val n).any (· == k')) (firstMet val n).length→R (.ok (.ret .none)) s')→
      codeAny (model prog w) A (.builtin "set.update.loop" ⟨[.ref S,.ref I], []⟩) R s:=by
  have hSw:S∉wr:=fun h=>hSf (W.sub _ h)
  have hsub:∀b∈wr,b∈S::wr:=fun b hb=>List.mem_cons_of_mem _ hb
  intro k
  induction k with
  | zero=>
    intro i s hk hi hst hS hR
    obtain rfl:i=n:=by omega
    refine codeAny_builtin F.entry_set_update_loop ?_
    rw[Around.under_plainId F.plain_set_update_loop _]
    show wpAny _ A.in1 (pyNext (.ref I) >>= _) _ _ s
    refine wpAny_bind (W.done s _ _ hst fun s' hm=>?_)
    show wpAny _ A.in1 (ret Value.none) _ _ s'
    exact wpAny_pure (hR s' (hm.mono hsub) (hS.keep fun o e=>hm.heap S o hSw e))
  | succ k ih=>
    intro i s hk hi hst hS hR
    have hlt:i<n:=by omega
    refine codeAny_builtin F.entry_set_update_loop ?_
    rw[Around.under_plainId F.plain_set_update_loop _]
    show wpAny _ A.in1 (pyNext (.ref I) >>= _) _ _ s
    refine wpAny_bind (W.item i s _ _ hlt hst fun v s' hP hst' hm=>?_)
    obtain⟨t,rfl⟩:=hval i v hP
    have hS':=hS.keep fun o e=>hm.heap S o hSw e
    show wpAny _ A.in1 (holding [Value.int (val i) t] (setAdd S (.int (val i) t)) >>= _) _ _ s'
    refine wpAny_bind (wpAny_holding ?_)
    unfold setAdd
    refine wpAny_holding ?_
    refine wpAny_bind ((intKind prog w).pyHash (k:=val i) (intKind_is _ _ _ _) ?_)
    have hl1:=firstMet_length_le val i
    have hl2:=firstMet_length_le val (i+1)
    refine VL (s:={ s' with toks:=s'.toks+1 }) hS' (fun hf=>by omega) fun h' hsb hS2=>?_
    have hSi:Gh prog w h' S (fun k'=>(firstMet val (i+1)).any (· == k')) (firstMet val (i+1)).length:=
      hS2.congr (fun k'=>by rw[firstMet_succ,step_any]) (by rw[firstMet_succ,step_length])
    refine wpAny_pure ⟨plainId_quiet F.plain_set_update_loop _,ih (i+1) _ (by omega) hlt (W.frame _ s' _ _ hst' (Nat.le_succ _) fun b hb o e=>?_) hSi fun s'' hm'' hS''=>?_⟩
    · rw[hsb.2 b fun h:b=S=>hSf (by rw[←h]; exact hb)]; exact e
    · refine hR s'' (Moved.trans W.gtrans ((hm.mono hsub).then_heap (Nat.le_succ _) fun b o hb e=>?_) hm'') hS''
      rw[hsb.2 b fun h:b=S=>hb (by rw[h]; exact List.mem_cons_self)]; exact e
end
end Mine
namespace Mine
open scoped Classical
open PySem PySem.W PySem.Calls PyProof.Rows PySem.Spec
section
variable {prog:Program}{w:World}{A:Around}{E:Value→Shared→Prop}{s:Shared}
noncomputable def DG (w:World):Obj:={ cls:= .type "set",dict:=none,data:= .set #[] 0 (.fresh 0 0 (!w.params.followText "set-order")) }
theorem TF {h:Heap}{a:Addr}(ho:h.get? a=some (DG w)):Gh prog w h a (fun _=>false) 0:=
  ⟨#[],0,_,ho,fun e he=>by simp at he,fun k=>by simp,rfl,by decide,⟨rfl,rfl,rfl,rfl,fun a b e=>by simp[SetTable.fresh] at e⟩,rfl⟩
theorem QR (a:Value){Q₁:Value→Shared→Prop}(h:Q₁ (.ref s.heap.objs.size) { s with heap:=s.heap.push (DG w) }):
    codeAny (model prog w) A (.call (.builtin "set.__new__") ⟨[.type "set",a], []⟩) (wants Q₁ E) s:=by
  refine codeAny_of_tree ?_
  show wpAny _ A.in1 (do checkBuiltinCall "set.__new__" ⟨[.type "set",a], []⟩; again (.builtin "set.__new__" ⟨[.type "set",a], []⟩)) _ _ s
  refine wpAny_bind (wpAny_of_eq (PySem.F.newCall_set_1 a) (wpAny_pure ⟨plainId_quiet PySem.F.plain_set_new _,codeAny_builtin PySem.F.entry_set_new ?_⟩))
  rw[Around.under_plainId PySem.F.plain_set_new _]
  unfold Builtin.«set.__new__» Builtin.Frozenset.newClass
  have hsub:=PySem.sub_set_self
  obtain⟨hp,g,d,tk,os⟩:=s
  dsimp only
  wp_walk
  refine wpAny_askSetting (wpAny_pure ?_)
  dsimp only
  simp only[PySem.newObj]
  refine wpAny_bind (wpAny_alloc (wpAny_pure ?_))
  exact wpAny_pure h
set_option maxHeartbeats 3200000 in
theorem UK {l:Addr}{items:Array Value}{ns:List Int}{Q:Value→Shared→Prop}
    (hh:A.handled=none) (hl:s.heap.IsList l items) (hi:IntsAre items.toList ns) (hb:items.size≤2)
    (h:∀(h':Heap) (tk:Nat),Gh prog w h' s.heap.objs.size (fun k'=>(firstMet (fun i=>ns.getD i 0) items.size).any (· == k')) (firstMet (fun i=>ns.getD i 0) items.size).length→
      (∀b o,b<s.heap.objs.size→s.heap.get? b=some o→h'.get? b=some o)→Q (.ref s.heap.objs.size) { s with heap:=h',toks:=tk }):
    wpAny (model prog w) A (call (.type "set") [.ref l]) Q E s:=by
  obtain⟨c,tl,hmro⟩:=PySem.F.called_set.mro
  have hmade:=PySem.F.called_set.made
  have hsub:=PySem.F.called_set.sub
  refine wpAny_call (codeAny_of_tree ?_)
  show wpAny _ _ (callAny (.type "set") _) _ _ _
  refine wpAny_pure ⟨Code.quiet_builtin _ (by decide +kernel),codeAny_builtin PySem.F.entry_type_call ?_⟩
  rw[Around.under_plain (weight_type_call_type "set" [.ref l] []) rfl]
  have h1:=PySem.F.called_set.notType
  have h2:=PySem.F.called_set.canCreate
  have hct:=PySem.F.typeCall_set_1 (.ref l)
  repeat (any_goals (first | assumption | wp_step))
  refine codeAny_mono (QR (.ref l) (E:=E) (Q₁:=fun obj s1=>obj= .ref s.heap.objs.size∧s1={ s with heap:=s.heap.push (DG w) }) ⟨rfl,rfl⟩) fun r s1 hr=>?_
  cases r with
  | error e=>exact hr
  | ok fl=>
    cases fl with
    | ret obj=>
      obtain⟨rfl,rfl⟩:=hr
      have hS:(s.heap.push (DG w)).get? s.heap.objs.size=some (DG w):=Heap.get?_push_size _ rfl
      have hT:Shared.TypeIs { s with heap:=s.heap.push (DG w) } (.ref s.heap.objs.size) "set" :=⟨_,hS,rfl⟩
      have hli:=PySem.F.called_set.init.lookup
      have hbi:=PySem.F.called_set.init.bind (.ref s.heap.objs.size)
      repeat (any_goals (first | assumption | wp_step))
      refine codeAny_mono (codeAny_call_builtin (R:=wants (fun r s2=>r= .none∧∃h' tk,s2={ s with heap:=h',toks:=tk }∧
          Gh prog w h' s.heap.objs.size (fun k'=>(firstMet (fun i=>ns.getD i 0) items.size).any (· == k')) (firstMet (fun i=>ns.getD i 0) items.size).length∧
          (∀b o,b<s.heap.objs.size→s.heap.get? b=some o→h'.get? b=some o)) E) PySem.F.called_set.init.plain PySem.F.entry_set_init (check_set_init_1 hT ?_)) fun r2 s2 hr2=>?_
      · obtain⟨ol,hol,hcl,nl,hdl⟩:=hl
        obtain⟨ocls,odict,odata,oslots⟩:=ol
        simp only at hcl hdl
        subst hcl; subst hdl
        have hol':(s.heap.push (DG w)).get? l=some { cls:= .type "list",dict:=odict,data:= .seq items nl,slots:=oslots }:=Heap.get?_push_of_some _ hol
        have hsls:=PySem.F.sub_list_set
        have hslf:=PySem.F.sub_list_frozenset
        have hne:(Value.type "list" == Value.type "dict")=false:=by decide
        have hl1:(s.heap.push (DG w)).IsList l items:=⟨_,hol',rfl,nl,rfl⟩
        unfold Builtin.«set.__init__» noKeywords Builtin.Frozenset.updateFrom
        generalize hPI:pyIter=PI
        wp_walk
        subst hPI
        refine wpAny_pyIter_list hl1 ?_
        refine wpAny_bind (wpAny_runValue ?_)
        have hlS:l<s.heap.objs.size:=Heap.lt_size hol
        have hh3:A.in1.in1.in1.handled=none:=by simp[hh]
        have hneI:l≠(s.heap.push (DG w)).objs.size:=by
          rw[Heap.size_push]; exact Nat.ne_of_lt (Nat.lt_succ_of_lt hlS)
        have hSf:s.heap.objs.size ∉ [(s.heap.push (DG w)).objs.size,l]:=by
          rw[Heap.size_push]; simp only[List.mem_cons,List.not_mem_nil,or_false,not_or]
          exact⟨Nat.ne_of_lt (Nat.lt_succ_self _),Nat.ne_of_gt hlS⟩
        have hval:∀(i:Nat) (v:Value),items[i]? =some v→∃t,v= .int ((fun i=>ns.getD i 0) i) t:=fun i v hv=>
          IntsAre.int_at hi i v (by rw[Array.getElem?_toList]; exact hv)
        refine UJ ((Walks.list hh3 _ l hneI items).toS) s.heap.objs.size hSf (fun i=>ns.getD i 0) hval hb (items.size-0) 0 _ (by omega) (Nat.zero_le _)
          ⟨⟨_,Heap.get?_push_size _ rfl,rfl,rfl⟩,(hl1.push _)⟩ ?hS0 ?hR
        case hS0=>exact(TF (Heap.get?_push_of_some _ hS)).congr (fun _=>rfl) rfl
        case hR=>
          intro s' hm hS'
          obtain⟨h',g',d',tk',os'⟩:=s'
          have eg:g'=s.gens:=hm.gens
          have ed:d'=s.drawn:=hm.drawn
          have eo:os'=s.os:=hm.os
          subst eg; subst ed; subst eo
          show wpAny _ _ _ _ _ _
          refine wpAny_pure ?_
          show wpAny _ _ (ret Value.none) _ _ _
          refine wpAny_pure ⟨rfl,h',tk',rfl,hS',fun b o hb e=>?_⟩
          have hb1:b≠s.heap.objs.size:=Nat.ne_of_lt hb
          have hb2:b≠(s.heap.push (DG w)).objs.size:=by
            rw[Heap.size_push]; exact Nat.ne_of_lt (Nat.lt_succ_of_lt hb)
          exact hm.heap b o (by simp only[List.mem_cons,List.not_mem_nil,or_false,not_or]; exact⟨hb1,hb2⟩) (Heap.get?_push_of_some _ (Heap.get?_push_of_some _ e))
      · cases r2 with
        | error e=>exact hr2
        | ok fl2=>
          cases fl2 with
          | ret r=>
            obtain⟨rfl,h',tk,rfl,hS',hk'⟩:=hr2
            repeat (any_goals (first | assumption | wp_step))
            exact h _ _ hS' hk'
          | _=>exact hr2.elim
    | _=>exact hr.elim
end
end Mine
namespace Mine
open scoped Classical
open PySem PySem.W PySem.Calls PyProof.Rows PySem.Spec
theorem CU:Slot "set_iterator" "__next__" "set_iterator.__next__" :=
  .of (owner:= "set_iterator") (n:= "__next__") (by rw[typeLookup_type,builtinLookup_eq_fast]; kernel_rfl) (by decide +kernel) (by decide +kernel) (by decide +kernel)
    (by first | exact .inl (by decide +kernel) | exact .inr (by decide +kernel)) (by rw[isSubtype_type]; kernel_rfl)
theorem He:entryFor table "set_iterator.__next__" =some Builtin.«set_iterator.__next__» :=entryFor_of_tree (by kernel_rfl)
theorem JY:Manifest.owners.lookup (String.ofList ['r', 'o', 't', 'a', 'r', 'e', 't', 'i', '_', 't', 'e', 's'].reverse)=some Manifest.sig_set_iterator:=by kernel_rfl
theorem Hr (a:Value):argsOk "set_iterator.__next__" ⟨[a], []⟩:=by
  unfold argsOk; rw[signature?_of (id:= "set_iterator.__next__") (n:= ['_', '_', 't', 'x', 'e', 'n', '_', '_']) (o:= ['r', 'o', 't', 'a', 'r', 'e', 't', 'i', '_', 't', 'e', 's']) (by kernel_rfl) JY]; kernel_rfl
theorem Og:entryFor table "set.__iter__" =some Builtin.«frozenset.__iter__» :=
  entryFor_alias (id':= "frozenset.__iter__") (by rw[fastTable_eq_tree]; kernel_rfl) rfl (by decide +kernel) (by rw[fastTable_eq_tree]; kernel_rfl)
theorem RY (a:Addr):setDrawn a=(do
    let (es,_,t) ←setState a
    let EG ←setsByText
    return !EG&&(!t.plain&&decide (es.size>1))):=rfl
theorem TG (a:Addr):setWalk a=(do
    let (es,epoch,t) ←setState a
    if ←setsByText then return pickOrder ((←ask).params.setOrder a epoch) es
    if(!t.plain&&decide (es.size>1)) then return (←drawOrder es.size es.toList).toArray
    (if !t.led&&decide (es.size>1) then unsupported "set:maker-not-led" else pure ())
    return es):=rfl
theorem Nn (a:Addr)(slot given epochThen:Nat):setNext a slot given epochThen=(do
    let (es,epoch,t) ←setState a
    if ←setsByText then
      if epoch != epochThen then unsupported "set_iterator.__next__:elements-changed"
      return ((←setWalk a)[given]?).map fun e=>(e.2,slot)
    if(!t.plain&&decide (es.size>1)) then unsupported "set_iterator.__next__:the-table-is-plain-no-more"
    (if !t.led && !es.isEmpty then unsupported "set:maker-not-led" else pure ())
    let i:=SetTable.below t.place slot
    return match es[i]?,t.place[i]? with
      | some (_,x),some j=>some (x,j+1)
      | _,_=>none):=rfl
section
variable {prog:Program}{w:World}{A:Around}{E:Value→Shared→Prop}{s:Shared}{S I:Addr}{es:Array (Int×Value)}{ep:Nat}{t:SetTable}
noncomputable def Gi (es:Array (Int×Value))(ep:Nat)(t:SetTable):Obj:={ cls:= .type "set",dict:=none,data:= .set es ep t }
noncomputable def EG (w:World):Bool:=w.params.followText "set-order"
noncomputable def Ds (w:World)(S:Addr)(es:Array (Int×Value))(ep:Nat):Array (Int×Value):=if EG w then pickOrder (w.params.setOrder S ep) es else es
theorem LH:(Ds w S es ep).toList.Perm es.toList:=by
  unfold Ds; split
  · exact Of _ _
  · exact .refl _
theorem Fx:(Ds w S es ep).size=es.size:=by
  have:=(LH (w:=w) (S:=S) (es:=es) (ep:=ep)).length_eq
  simpa using this
structure SetOK (w:World) (es:Array (Int×Value)) (t:SetTable):Prop where
  tab:TabOK t es.size
  small:es.size≤2
  led:t.led=!EG w
theorem SetOK.fits (K:SetOK w es t):t.fits es.size=true:=Mx K.tab K.small
theorem FE {Q:Bool→Shared→Prop}(h:Q (EG w) s):wpAny (model prog w) A setsByText Q E s:=by
  unfold setsByText
  exact wpAny_bind (wpAny_askSetting (wpAny_pure h))
theorem TH {Q:Value→Shared→Prop}(ho:s.heap.get? S=some (Gi es ep t))(K:SetOK w es t)
    (h:Q (.ref s.heap.objs.size) { s with heap:=s.heap.push { cls:= .type "set_iterator",data:= .fields #[.int 0 0,.int 0 0,.ref S,.int (es.size:Int) 0,.int (ep:Int) 0] } }):
    wpAny (model prog w) A (pyIter (.ref S)) Q E s:=by
  have hT:s.TypeIs (.ref S) "set" :=⟨_,ho,rfl⟩
  refine wpAny_pyIter_slot hT PySem.F.slot_set_iter (wpAny_call_entry PySem.F.slot_set_iter hT Og ?_ (PySem.F.args_set_iter_1 _))
  show wpAny _ _ (Builtin.Frozenset.sizeOf S >>= _) _ _ s
  unfold Builtin.Frozenset.sizeOf
  refine wpAny_bind (wpAny_bind (wpAny_setEntries_of ho rfl K.fits (wpAny_pure ?_)))
  rw[RY]
  refine wpAny_bind (wpAny_bind (wpAny_setState_of ho rfl K.fits ?_))
  refine wpAny_bind (FE ?_)
  refine wpAny_pure ?_
  rw[K.tab.plain]
  simp only[Bool.not_true,Bool.false_and,Bool.and_false,Bool.false_eq_true,if_false]
  refine wpAny_bind (wpAny_pure ?_)
  refine wpAny_bind (wpAny_setEpoch_of ho rfl K.fits ?_)
  refine wpAny_bind (wpAny_newObj_type (wpAny_pure ⟨_,rfl, "set_iterator",_,⟨_,Heap.get?_push_size _ rfl,rfl⟩,CU.lookup,?_⟩))
  simpa [rawInt] using h
structure IterS (h:Heap) (w:World) (I S:Addr) (es:Array (Int×Value)) (ep:Nat) (t:SetTable) (i:Nat):Prop where
  at_:∃o slot,h.get? I=some o∧o.cls= .type "set_iterator" ∧o.data= .fields #[.int (slot:Nat) 0,.int (i:Nat) 0,.ref S,.int (es.size:Nat) 0,.int (ep:Nat) 0]∧(EG w=false→SetTable.below t.place slot=i)
  set_:h.get? S=some (Gi es ep t)
theorem Kz {Q:Array (Int×Value)→Shared→Prop}(ho:s.heap.get? S=some (Gi es ep t))(K:SetOK w es t)(ht:EG w=true)(h:Q (Ds w S es ep) s):wpAny (model prog w) A (setWalk S) Q E s:=by
  rw[TG]
  refine wpAny_bind (wpAny_setState_of ho rfl K.fits ?_)
  refine wpAny_bind (FE ?_)
  rw[ht]
  simp only[if_true]
  refine wpAny_bind (wpAny_askSetting (wpAny_pure ?_))
  unfold Ds at h
  rw[ht] at h
  exact h
theorem TI {i:Nat}(K:SetOK w es t)(hi:i<es.size):∃j,t.place[i]? =some j∧SetTable.below t.place (j+1)=i+1:=by
  have hsz:=K.tab.size
  have h2:=K.small
  have hlt:i<t.place.size:=by omega
  refine⟨t.place[i],by simp[hlt],?_⟩
  generalize hp:t.place=pl at *
  obtain⟨l⟩:=pl
  simp only[List.size_toArray] at hsz
  match l,hsz with
  | [],hsz=>simp at hlt
  | [a],hsz=>
    have i0:i=0:=by simp at hlt; omega
    subst i0
    rw[Ij rfl]
    show(if a<a+1 then 1 else 0)=1
    rw[if_pos (by omega)]
  | [a,b],hsz=>
    have hab:=K.tab.rising a b hp
    rw[Pd]
    have:i=0∨i=1:=by simp at hlt; omega
    rcases this with rfl | rfl
    · show(if b<a+1 then 2 else if a<a+1 then 1 else 0)=1
      rw[if_neg (by omega),if_pos (by omega)]
    · show(if b<b+1 then 2 else if a<b+1 then 1 else 0)=2
      rw[if_pos (by omega)]
  | _::_::_::_,hsz=>simp at hsz; omega
theorem QS {i slot:Nat}{x:Int×Value}{Q:Option (Value×Nat)→Shared→Prop}(ho:s.heap.get? S=some (Gi es ep t))(K:SetOK w es t)(hb:EG w=false→SetTable.below t.place slot=i)(hx:(Ds w S es ep)[i]? =some x)
    (h:∀slot',(EG w=false→SetTable.below t.place slot'=i+1)→Q (some (x.2,slot')) s):wpAny (model prog w) A (setNext S slot i ep) Q E s:=by
  rw[Nn]
  refine wpAny_bind (wpAny_setState_of ho rfl K.fits ?_)
  refine wpAny_bind (FE ?_)
  cases ht:EG w with
  | true=>
    simp only[if_true,bne_self_eq_false,Bool.false_eq_true,if_false]
    refine wpAny_bind (Kz ho K ht ?_)
    rw[hx]
    exact wpAny_pure (h slot (by rw[ht]; intro q; cases q))
  | false=>
    simp only[Bool.false_eq_true,if_false,K.tab.plain,Bool.not_true,Bool.false_and]
    have hl:t.led=true:=by rw[K.led,ht]; rfl
    simp only[hl,Bool.not_true,Bool.false_and,Bool.false_eq_true,if_false]
    refine wpAny_bind (wpAny_pure ?_)
    have e:=hb ht
    have hi:i<es.size:=by
      have:=(Array.getElem?_eq_some_iff.mp hx).1
      rw[Fx] at this; exact this
    obtain⟨j,hj,hn⟩:=TI K hi
    have hxe:es[i]? =some x:=by unfold Ds at hx; rw[ht] at hx; exact hx
    rw[e,hxe,hj]
    exact wpAny_pure (h (j+1) fun _=>hn)
theorem QT {slot:Nat}{Q:Option (Value×Nat)→Shared→Prop}(ho:s.heap.get? S=some (Gi es ep t))(K:SetOK w es t)(hb:EG w=false→SetTable.below t.place slot=es.size)(h:Q none s):wpAny (model prog w) A (setNext S slot es.size ep) Q E s:=by
  rw[Nn]
  refine wpAny_bind (wpAny_setState_of ho rfl K.fits ?_)
  refine wpAny_bind (FE ?_)
  cases ht:EG w with
  | true=>
    simp only[if_true,bne_self_eq_false,Bool.false_eq_true,if_false]
    refine wpAny_bind (Kz ho K ht ?_)
    have:(Ds w S es ep)[es.size]? =none:=by rw[Array.getElem?_eq_none_iff,Fx]; exact Nat.le_refl _
    rw[this]
    exact wpAny_pure h
  | false=>
    simp only[Bool.false_eq_true,if_false,K.tab.plain,Bool.not_true,Bool.false_and]
    have hl:t.led=true:=by rw[K.led,ht]; rfl
    simp only[hl,Bool.not_true,Bool.false_and,Bool.false_eq_true,if_false]
    refine wpAny_bind (wpAny_pure ?_)
    have e:=hb ht
    have hxe:es[es.size]? =none:=by rw[Array.getElem?_eq_none_iff]; exact Nat.le_refl _
    rw[e,hxe]
    exact wpAny_pure h
theorem No {i:Nat}{x:Int×Value}{Q:Option Value→Shared→Prop}(hne:S≠I)(hit:IterS s.heap w I S es ep t i)(K:SetOK w es t)(hx:(Ds w S es ep)[i]? =some x)
    (hQ:∀h',IterS h' w I S es ep t (i+1)→(∀b o,b≠I→s.heap.get? b=some o→h'.get? b=some o)→Q (some x.2) { s with heap:=h' }):wpAny (model prog w) A (pyNext (.ref I)) Q E s:=by
  obtain⟨o,slot,ho,hc,hd,hb⟩:=hit.at_
  have hS:=hit.set_
  have hT:s.TypeIs (.ref I) "set_iterator" :=⟨o,ho,hc⟩
  unfold pyNext
  refine wpAny_bind (wpAny_attempt (wpAny_callSpecial?_slot (name:=Str.ofString "__next__") hT CU (wpAny_call_entry CU hT He ?_ (Hr _))))
  show wpAny _ _ (fieldsOf (.ref I) >>= _) _ _ s
  refine wpAny_bind (wpAny_fieldsOf ho hd ?_)
  dsimp only
  show wpAny _ _ (setEntries S >>= _) _ _ s
  refine wpAny_bind (wpAny_setEntries_of hS rfl K.fits ?_)
  simp only[bne_self_eq_false,Bool.false_eq_true,if_false,Int.toNat_natCast]
  refine wpAny_bind (QS hS K hb hx fun slot' hb'=>?_)
  dsimp only
  refine wpAny_bind (wpAny_setField ho hd (by simp) ?_)
  have ho1:(s.heap.update I (Obj.mapFields (·.setIfInBounds 0 (rawInt (slot':Nat))))).get? I=some (Obj.mapFields (·.setIfInBounds 0 (rawInt (slot':Nat))) o):=Heap.get?_update_self _ ho (Obj.isFreed_of_fields (Obj.data_mapFields hd _))
  have hd1:(Obj.mapFields (·.setIfInBounds 0 (rawInt (slot':Nat))) o).data= .fields #[.int (slot':Nat) 0,.int (i:Nat) 0,.ref S,.int (es.size:Nat) 0,.int (ep:Nat) 0]:=by rw[Obj.data_mapFields hd]; simp[rawInt]
  refine wpAny_bind (wpAny_setField (s:={ s with heap:=s.heap.update I (Obj.mapFields (·.setIfInBounds 0 (rawInt (slot':Nat)))) }) ho1 hd1 (by simp) ?_)
  have other:∀b o,b≠I→s.heap.get? b=some o→((s.heap.update I (Obj.mapFields (·.setIfInBounds 0 (rawInt (slot':Nat))))).update I (Obj.mapFields (·.setIfInBounds 1 (rawInt ((i:Int)+1))))).get? b=some o:=fun b o hbI e=>by
    rw[Heap.get?_update_other _ _ (Ne.symm hbI),Heap.get?_update_other _ _ (Ne.symm hbI)]; exact e
  refine wpAny_pure ⟨x.2,rfl,wpAny_pure (hQ _ ⟨⟨_,slot',Heap.get?_update_self _ ho1 (Obj.isFreed_of_fields (Obj.data_mapFields hd1 _)),?_,?_,hb'⟩,other S _ hne hS⟩ other)⟩
  · rw[Obj.cls_mapFields,Obj.cls_mapFields]; exact hc
  · rw[Obj.data_mapFields hd1]; simp[rawInt]
theorem KA:isSubtype (.type "StopIteration") (.type "StopIteration")=pure true:=by rw[isSubtype_type]; kernel_rfl
theorem Oh {Q:Option Value→Shared→Prop}(hh:A.handled=none)(hit:IterS s.heap w I S es ep t es.size)(K:SetOK w es t)
    (hQ:∀h',(∀b o,b≠I→s.heap.get? b=some o→h'.get? b=some o)→Q none { s with heap:=h' }):wpAny (model prog w) A (pyNext (.ref I)) Q E s:=by
  obtain⟨o,slot,ho,hc,hd,hb⟩:=hit.at_
  have hS:=hit.set_
  have hT:s.TypeIs (.ref I) "set_iterator" :=⟨o,ho,hc⟩
  unfold pyNext
  refine wpAny_bind (wpAny_attempt (wpAny_callSpecial?_slot (name:=Str.ofString "__next__") hT CU (wpAny_call_entry CU hT He ?_ (Hr _))))
  show wpAny _ _ (fieldsOf (.ref I) >>= _) _ _ s
  refine wpAny_bind (wpAny_fieldsOf ho hd ?_)
  dsimp only
  show wpAny _ _ (setEntries S >>= _) _ _ s
  refine wpAny_bind (wpAny_setEntries_of hS rfl K.fits ?_)
  simp only[bne_self_eq_false,Bool.false_eq_true,if_false,Int.toNat_natCast]
  refine wpAny_bind (QT hS K hb ?_)
  dsimp only
  refine wpAny_bind (wpAny_setField ho hd (by simp) ?_)
  show wpAny _ _ (newExc (.type "StopIteration") [] >>= _) _ _ _
  refine wpAny_bind ?_
  simp only[newExc,newTuple]
  refine wpAny_bind (wpAny_newObj_type ?_ (by size_fits))
  refine wpAny_bind (m:=firstArgMember _ _) (wpAny_of_eq (a:=Value.none) (by first | rfl | (simp only[firstArgMember]; rfl)) ?_)
  refine wpAny_newObj_type ?_ (by size_fits)
  simp only[raiseNew]
  refine wpAny_bind (wpAny_handled ?_)
  rw[show A.in1.handled=none from hh]
  refine wpAny_bind (wpAny_pure (wpAny_throw ?_))
  refine wpAny_bind (wpAny_isInstance (T:= "StopIteration") (b:=true) ⟨_,Heap.get?_push_size _ rfl,rfl⟩ KA ?_)
  refine wpAny_pure (hQ _ fun b o' hbI e=>?_)
  exact Ax _ _ _ (Ax _ _ _ ((Heap.get?_update_other _ _ (Ne.symm hbI)).trans e))
end
end Mine
namespace Mine
open scoped Classical
open PySem PySem.W PySem.Calls PyProof.Rows PySem.Spec
open Sem (wp)
variable {B:Base}{X Y:List Addr}{φ φ' φ1 φ2 φ0:Phi}{σ σ' σ1 σ₂ σ0:Hp}{h h' h1 h₂:Heap}{s s' s1 s2 s0:Shared}{n:Nat}{sc:Scope}{env:Env}{ρ ρ':Rho}{A:Around}{E:Value→Shared→Prop}
theorem Ht:Slot "set_iterator" "__iter__" "set_iterator.__iter__" :=
  .of (owner:= "set_iterator") (n:= "__iter__") (by rw[typeLookup_type,builtinLookup_eq_fast]; kernel_rfl) (by decide +kernel) (by decide +kernel) (by decide +kernel)
    (by first | exact .inl (by decide +kernel) | exact .inr (by decide +kernel)) (by rw[isSubtype_type]; kernel_rfl)
theorem KB:entryFor table "set_iterator.__iter__" =some Builtin.«dict_keyiterator.__iter__» :=
  entryFor_alias (id':= "dict_keyiterator.__iter__") (by rw[fastTable_eq_tree]; kernel_rfl) rfl (by decide +kernel) (by rw[fastTable_eq_tree]; kernel_rfl)
theorem Lo (a:Value):argsOk "set_iterator.__iter__" ⟨[a], []⟩:=by
  unfold argsOk; rw[signature?_of (id:= "set_iterator.__iter__") (n:= ['_', '_', 'r', 'e', 't', 'i', '_', '_']) (o:= ['r', 'o', 't', 'a', 'r', 'e', 't', 'i', '_', 't', 'e', 's']) (by kernel_rfl) JY]; kernel_rfl
section
variable {prog:Program}{w:World}{S I:Addr}{es:Array (Int×Value)}{ep:Nat}{t:SetTable}
theorem Oi {i:Nat}{Q:Value→Shared→Prop}(hit:IterS s.heap w I S es ep t i)(hq:Q (.ref I) s):wpAny (model prog w) A (pyIter (.ref I)) Q E s:=by
  obtain⟨o,slot,ho,hc,hd,hb⟩:=hit.at_
  have hT:s.TypeIs (.ref I) "set_iterator" :=⟨o,ho,hc⟩
  refine wpAny_pyIter_slot hT Ht (wpAny_call_entry Ht hT KB ?_ (Lo _))
  show wpAny _ _ (ret (.ref I)) _ _ s
  exact wpAny_pure ⟨_,rfl, "set_iterator",_,hT,CU.lookup,hq⟩
theorem IterS.keep {h h':Heap}{i:Nat}(x:IterS h w I S es ep t i)(k:∀b,b∈ [I,S]→∀o,h.get? b=some o→h'.get? b=some o):IterS h' w I S es ep t i:=by
  obtain⟨o,slot,ho,r⟩:=x.at_
  exact⟨⟨o,slot,k I (by simp) o ho,r⟩,k S (by simp) _ x.set_⟩
theorem UL (hh:A.handled=none)(hne:S≠I)(K:SetOK w es t):
    Walks prog w A I [I,S] [I] es.size (fun i v=>∃x,(Ds w S es ep)[i]? =some x∧v=x.2) (fun i h=>IterS h w I S es ep t i) where
  sub:=fun b hb=>by simp at hb; simp[hb]
  frame:=fun _ _ _ st hk=>st.keep hk
  item:=fun i s Q E hi st hQ=>by
    obtain⟨x,hx⟩:∃x,(Ds w S es ep)[i]? =some x:=⟨(Ds w S es ep)[i]'(by rw[Fx]; exact hi),by simp[Fx,hi]⟩
    exact No hne st K hx fun h' hit' hk=>hQ _ h' s.toks ⟨x,hx,rfl⟩ hit' fun b o hb e=>hk b o (fun q=>hb (by simp[q])) e
  done:=fun s Q E st hQ=>Oh hh st K fun h' hk=>hQ h' s.toks fun b o hb e=>hk b o (fun q=>hb (by simp[q])) e
  self:=fun _ _ _ _ st hQ=>Oi st hQ
theorem VM {Q:Bool→Shared→Prop}(hT:s.TypeIs (.ref S) "set")(hq:Q false s):wpAny (model prog w) A (Builtin.List.listLengthHint (.ref S)) Q E s:=by
  unfold Builtin.List.listLengthHint
  refine wpAny_bind (wpAny_specialOf hT PySem.F.slot_set_len.lookup ?_)
  generalize hid:("set.__len__" :String)=id0
  wp_delta
  rw[show splitId id0=some ("set", "__len__") from by subst hid; decide +kernel]
  subst hid
  refine wpAny_bind (wpAny_isInstance (T:= "set") (b:=true) hT (by rw[isSubtype_type]; kernel_rfl) ?_)
  refine wpAny_ite_split (fun hab=>absurd hab (by decide)) (fun _=>?_)
  refine wpAny_ite_split (fun _=>?_) (fun hab=>absurd (by decide +kernel) hab)
  refine wpAny_bind (wpAny_typeOf hT ?_)
  exact wpAny_pure hq
theorem WC (K:SetOK w es t):KdlSrc prog w "set" S S es.size (fun i v=>∃x,(Ds w S es ep)[i]? =some x∧v=x.2) (fun h=>h.get? S=some (Gi es ep t)) where
  type:=fun _ ho=>⟨_,ho,rfl⟩
  there:=fun _ ho=>⟨Heap.lt_size ho,Heap.lt_size ho⟩
  keep:=fun _ _ ho hk=>hk S (.inl rfl) _ ho
  notList:=by decide
  notTuple:=by decide
  hint:=fun _ _ _ _ ho hq=>VM ⟨_,ho,rfl⟩ hq
  iter:=fun _ s hh ho=>⟨_,_,(fun _ _ hq=>TH ho K hq),UL hh (Nat.ne_of_lt (Heap.lt_size ho)) K,
    ⟨⟨_,0,Heap.get?_push_size _ rfl,rfl,rfl,fun _=>by
      show SetTable.below t.place 0=0
      have h2:=K.small
      have hsz:=K.tab.size
      rcases Nat.lt_or_ge es.size 1 with q | q
      · exact UH (by omega) 0
      · rcases Nat.lt_or_ge es.size 2 with q2 | q2
        · rw[Ij (by omega)]; rfl
        · obtain⟨a,b,hab⟩:∃a b,t.place= #[a,b]:=by
            generalize t.place=pl at hsz
            obtain⟨l⟩:=pl
            simp only[List.size_toArray] at hsz
            match l,hsz with
            | [],hsz=>simp at hsz; omega
            | [a],hsz=>simp at hsz; omega
            | [a,b],_=>exact⟨a,b,rfl⟩
            | _::_::_::_,hsz=>simp at hsz; omega
          rw[hab,Pd]; rfl⟩,Ax _ _ _ ho⟩⟩
theorem RZ {Q:List Value→Shared→Prop}(hh:A.handled=none)(ho:s.heap.get? S=some (Gi es ep t))(K:SetOK w es t)
    (hQ:∀h' tk,(∀b o,s.heap.get? b=some o→h'.get? b=some o)→Q ((Ds w S es ep).toList.map (·.2)) { s with heap:=h',toks:=tk }):wpAny (model prog w) A (collect (.ref S)) Q E s:=by
  have key:∀R:Result→Shared→Prop,(∀h' tk acc' c',(∀b o,s.heap.get? b=some o→h'.get? b=some o)→h'.get? s.heap.objs.size=some { cls:= .type "list",dict:=none,data:= .seq acc' c',slots:= #[] }→acc'.toList=(Ds w S es ep).toList.map (·.2)→
      R (.ok (.ret (.ref s.heap.objs.size))) { s with heap:=h',toks:=tk })→codeAny (model prog w) A (.builtin "proto.collect" ⟨[.ref S], []⟩) R s:=by
    intro R hR
    refine codeAny_builtin PySem.F.entry_proto_collect ?_
    rw[Around.under_plainId PySem.F.plain_proto_collect _]
    show wpAny _ A.in1 (newList [] >>= fun l=>again (.builtin "list.__iadd__" ⟨[l,.ref S], []⟩)) _ _ s
    refine wpAny_bind (wpAny_newObj_type ?_)
    refine wpAny_pure ⟨plainId_quiet PySem.F.plain_list_iadd _,codeAny_builtin PySem.F.entry_list_iadd ?_⟩
    rw[Around.under_plainId PySem.F.plain_list_iadd _]
    have hS:(s.heap.push { cls:= .type "list",data:= .seq #[] }).get? s.heap.objs.size=some { cls:= .type "list",data:= .seq #[] }:=Heap.get?_push_size _ rfl
    show wpAny _ A.in1 (Builtin.List.listExtendWith (.ref s.heap.objs.size) (.ref S) (.ref s.heap.objs.size)) _ _ { s with heap:=s.heap.push { cls:= .type "list",data:= .seq #[] } }
    have ho':(s.heap.push { cls:= .type "list",data:= .seq #[] }).get? S=some (Gi es ep t):=Ax _ _ _ ho
    refine kdl_extend (R:=R) (s:={ s with heap:=s.heap.push { cls:= .type "list",data:= .seq #[] } }) (WC K) hh ho' s.heap.objs.size (Nat.ne_of_gt (Heap.lt_size ho)) (Nat.ne_of_gt (Heap.lt_size ho)) (.ref s.heap.objs.size) 0 hS (fun h' tk acc' c' hk hS' hacc=>?_) (by have:=K.small; rw[sizeLine_eq]; omega)
    refine hR h' tk acc' c' (fun b o q=>hk b o (Nat.ne_of_lt (Heap.lt_size q)) (Ax _ _ _ q)) hS' ?_
    refine List.ext_getElem? fun i=>?_
    by_cases hi:i<es.size
    · have hi':i<acc'.size:=by rw[hacc.1]; exact hi
      obtain⟨x,hx,e2⟩:=hacc.2 i acc'[i] (by simp[hi'])
      rw[List.getElem?_map,Array.getElem?_toList,Array.getElem?_toList,hx]
      simp[hi',e2]
    · have hi':¬ i<acc'.size:=by rw[hacc.1]; exact hi
      rw[List.getElem?_map,Array.getElem?_toList,Array.getElem?_toList,Array.getElem?_eq_none (by omega),Array.getElem?_eq_none (by rw[Fx]; omega)]
      rfl
  unfold collect
  refine wpAny_bind (wpAny_runValue (key _ fun h' tk acc' c' hk hS' e=>?_))
  show wpAny _ A (load s.heap.objs.size >>= _) _ _ _
  refine wpAny_bind (wpAny_load hS' ?_)
  refine wpAny_pure ?_
  show Q acc'.toList _
  rw[e]
  exact hQ h' tk hk
end
end Mine
namespace Mine
open scoped Classical
open PySem PySem.W PySem.Calls PyProof.Rows PySem.Spec
open Sem (wp)
variable {B:Base}{X Y:List Addr}{φ φ' φ1 φ2 φ0:Phi}{σ σ' σ1 σ₂ σ0:Hp}{h h' h₁ h₂:Heap}{s s' s1 s2 s0:Shared}{n:Nat}{sc:Scope}{env:Env}{ρ ρ':Rho}{A:Around}{E:Value→Shared→Prop}
theorem GD (val:Nat→Int):∀i,(firstMet val i).Nodup
  | 0=>by rw[firstMet_zero]; exact List.nodup_nil
  | i+1=>by
    rw[firstMet_succ]
    unfold step_dedup
    split
    · exact GD val i
    · rename_i hne
      refine List.nodup_append.mpr ⟨GD val i,by simp,fun a ha b hb q=>?_⟩
      simp only[List.mem_singleton] at hb
      subst hb; subst q
      exact hne (List.any_eq_true.mpr ⟨_,ha,by simp⟩)
theorem IJ:∀{xs:List SV},(Cr xs).Nodup
  | []=>by simp[Cr]
  | x::xs=>by
    unfold Cr
    split
    · exact IJ
    · rename_i hne
      refine List.nodup_cons.mpr ⟨fun q=>hne ?_,IJ⟩
      have:x∈xs:=by
        clear hne
        induction xs with
        | nil=>simp[Cr] at q
        | cons y ys ih=>
          unfold Cr at q
          split at q
          · exact List.mem_cons_of_mem _ (ih q)
          · rcases List.mem_cons.mp q with w | w
            · rw[w]; exact List.mem_cons_self
            · exact List.mem_cons_of_mem _ (ih w)
      simpa using this
theorem JI {x:SV}:∀{xs:List SV},x∈Cr xs↔x∈xs
  | []=>by simp[Cr]
  | y::ys=>by
    unfold Cr
    split
    · rename_i h
      rw[JI,List.mem_cons]
      have:y∈ys:=by simpa using h
      exact⟨.inr,fun q=>by rcases q with rfl | q; exact this; exact q⟩
    · rw[List.mem_cons,List.mem_cons,JI]
theorem Oj {L M:List Int}(hL:L.Nodup)(hm:∀k,k∈L↔k∈M)(hl:M.length=L.length)(h2:M.length≤2):M.Nodup:=by
  match M,h2 with
  | [],_=>exact List.nodup_nil
  | [k],_=>simp
  | [k1,k2],_=>
    match L,hl with
    | [a,b],_=>
      have hab:a≠b:=by
        intro q; subst q; simp at hL
      refine List.nodup_cons.mpr ⟨fun q=>hab ?_,by simp⟩
      simp only[List.mem_singleton] at q
      subst q
      have h1:=(hm a).mp (by simp)
      have h2:=(hm b).mp (by simp)
      simp at h1 h2
      rw[h1,h2]
noncomputable def DB:Value→SV
  | .int k _=> .int k
  | _=> .none
theorem QU {xs:List SV}{vs:List Value}(hx:xs.all SV.isInt=true):Ak φ h xs vs→IntsAre vs (xs.map Cm):=by
  induction xs generalizing vs with
  | nil=>intro q; rw[Ak.nil'.mp q]; exact .nil
  | cons x xs ih=>
    intro q
    simp only[Ak] at q
    obtain⟨v,ws,rfl,r1,r2⟩:=q
    simp only[List.all_cons,Bool.and_eq_true] at hx
    have e:=CR hx.1
    rw[e] at r1
    simp only[Al] at r1
    obtain⟨t,rfl⟩:=r1
    rw[List.map_cons]
    exact .cons _ _ (ih hx.2 r2)
theorem QV {vs:List Value}(hv:∀v,v∈vs→∃k t,v= .int k t):Ak φ h (vs.map DB) vs:=by
  induction vs with
  | nil=>exact Ak.nil'.mpr rfl
  | cons v vs ih=>
    obtain⟨k,t,rfl⟩:=hv v List.mem_cons_self
    refine Ak.cons'.mpr ⟨?_,ih fun w hw=>hv w (List.mem_cons_of_mem _ hw)⟩
    simp only[DB,Al]
    exact⟨t,rfl⟩
theorem QW {l:Nat}{xs:List SV}{v:Value}(R:By A 0)(I:Inv B φ σ s)(hl:σ[l]? =some (.list xs))(r:Al φ s.heap (.loc l) v)(hx:xs.all SV.isInt=true)(h2:xs.length≤2){Q:Value→Shared→Prop}
    (hq:∀u s',wpAny (model B.prog B.w) A (call (.builtin "sorted") [u]) (BO B [] φ σ s.heap (.loc σ.length) (σ ++ [.list (AS (Cr xs))])) E s'→Q u s'):
    wpAny (model B.prog B.w) A (call (.type "set") [v]) Q E s:=by
  obtain⟨a,items,rfl,hφ,hi,hv,hz⟩:=I.list_at hl r
  have hlen:xs.length=items.size:=by simpa using hv.length
  have hints:IntsAre items.toList (xs.map Cm):=QU hx hv
  refine UK R.handled hi hints (by omega) fun h₁ tk hS keep=>hq _ _ ?_
  obtain⟨es,ep,t,ho,hel,hmem,hn,hn2,T,hled⟩:=hS
  have k₁:∀b o,s.heap.get? b=some o→h₁.get? b=some o:=fun b o e=>keep b o (Heap.lt_size e) e
  have K:SetOK B.w es t:=⟨by rw[hn]; exact T,by omega,by rw[hled]; rfl⟩
  have ho':h₁.get? s.heap.objs.size=some (Gi es ep t):=ho
  have wp:=LH (w:=B.w) (S:=s.heap.objs.size) (es:=es) (ep:=ep)
  generalize hws:(Ds B.w s.heap.objs.size es ep).toList.map (·.2)=vs
  have hvs:vs.Perm (es.toList.map (·.2)):=by rw[←hws]; exact wp.map _
  have vint:∀v,v∈vs→∃k t,v= .int k t:=fun v hv=>by
    obtain⟨e,he,rfl⟩:=List.mem_map.mp (hvs.mem_iff.mp hv)
    obtain⟨⟨k,hk,_⟩,_⟩:=hel e he
    obtain⟨t,ht⟩:=Value.isInt_shape hk
    exact⟨k,t,ht⟩
  have I1:Inv B φ σ { s with heap:=h₁,toks:=tk }:=I.keep k₁ rfl rfl
  have hv':Ak φ h₁ (vs.map DB) vs:=QV vint
  have vl:vs.length≤2:=by rw[hvs.length_eq,List.length_map,Array.length_toList]; omega
  have hnd:(vs.map DB).Nodup:=by
    have hM:((es.toList.map (·.2)).map fun v=>Cm (DB v)).Nodup:=by
      refine Oj (L:=firstMet (fun i=>(xs.map Cm).getD i 0) items.size) (GD _ _) (fun k=>?_) ?_ (by rw[List.length_map,List.length_map,Array.length_toList]; omega)
      · have e1:k∈firstMet (fun i=>(xs.map Cm).getD i 0) items.size↔(firstMet (fun i=>(xs.map Cm).getD i 0) items.size).any (· == k)=true:=by
          rw[List.any_eq_true]
          exact⟨fun w=>⟨k,w,by simp⟩,fun⟨y,hy,e⟩=>(show y=k by simpa using e)▸hy⟩
        rw[e1,hmem k,List.mem_map]
        constructor
        · intro hrin; obtain⟨e,he,hk⟩:=hrin
          obtain⟨t,ht⟩:=Value.isInt_shape hk
          exact⟨e.2,List.mem_map_of_mem he,by rw[ht]; rfl⟩
        · intro hrin; obtain⟨v,hv,rfl⟩:=hrin
          obtain⟨e,he,rfl⟩:=List.mem_map.mp hv
          obtain⟨⟨k,hk,_⟩,_⟩:=hel e he
          obtain⟨t,ht⟩:=Value.isInt_shape hk
          refine⟨e,he,?_⟩
          rw[ht]
          exact intKind_is _ _ _ _
      · rw[List.length_map,List.length_map,Array.length_toList]; exact hn
    have hp:=hvs.map fun v=>Cm (DB v)
    have hN:=hp.nodup_iff.mpr hM
    have:vs.map (fun v=>Cm (DB v))=(vs.map DB).map Cm:=by rw[List.map_map]; rfl
    rw[this] at hN
    exact(List.pairwise_map.mp hN).imp fun h e=>h (congrArg Cm e)
  have hall:(vs.map DB).all SV.isInt=true:=by
    rw[List.all_eq_true]
    intro x hx
    obtain⟨v,hv,rfl⟩:=List.mem_map.mp hx
    obtain⟨k,t,rfl⟩:=vint v hv
    rfl
  have hperm:(Cr xs).Perm (vs.map DB):=by
    rw[List.perm_ext_iff_of_nodup IJ hnd]
    intro x
    rw[JI,List.mem_map]
    have anyk:∀k:Int,(∃e∈es.toList,(intKind B.prog B.w).is k e.2=true)↔k∈xs.map Cm:=fun k=>by
      rw[←hmem k]
      show(firstMet (fun i=>(xs.map Cm).getD i 0) items.size).any (· == k)=true↔_
      rw[firstMet_any,List.any_eq_true]
      have e1:(List.range items.size).map (fun i=>(xs.map Cm).getD i 0)=xs.map Cm:=by
        apply List.ext_getElem?
        intro i
        rw[List.getElem?_map]
        by_cases q:i<items.size
        · rw[List.getElem?_range q,List.getElem?_map]
          have:i<xs.length:=by omega
          simp[List.getD_eq_getElem?_getD,this]
        · rw[List.getElem?_eq_none (by simpa using q),List.getElem?_eq_none (by rw[List.length_map]; omega)]; rfl
      rw[e1]
      exact⟨fun⟨y,hy,e⟩=>(show y=k by simpa using e)▸hy,fun w=>⟨k,w,by simp⟩⟩
    constructor
    · intro hxm
      have e:=CR (List.all_eq_true.mp hx x hxm)
      obtain⟨en,he,hk⟩:=(anyk (Cm x)).mpr (List.mem_map_of_mem hxm)
      obtain⟨t,ht⟩:=Value.isInt_shape hk
      refine⟨en.2,hvs.mem_iff.mpr (List.mem_map_of_mem he),?_⟩
      rw[ht,e]; rfl
    · intro hrin; obtain⟨v,hv,rfl⟩:=hrin
      obtain⟨en,he,rfl⟩:=List.mem_map.mp (hvs.mem_iff.mp hv)
      obtain⟨⟨k,hk,_⟩,_⟩:=hel en he
      obtain⟨t,ht⟩:=Value.isInt_shape hk
      obtain⟨y,hy,e⟩:=List.mem_map.mp ((anyk k).mp ⟨en,he,hk⟩)
      have ey:=CR (List.all_eq_true.mp hx y hy)
      rw[ht]
      show SV.int k∈xs
      rw[←e, ←ey]; exact hy
  have same:AS (vs.map DB)=AS (Cr xs):=by
    refine O9 (O:=HU) (c:=Cm) (fun x y hx hy=>?_) (fun x y hx hy e=>?_) hperm
    · obtain⟨a,rfl⟩:∃a,x= .int a:=⟨_,CR (List.all_eq_true.mp hall x hx)⟩
      obtain⟨b,rfl⟩:∃b,y= .int b:=⟨_,CR (List.all_eq_true.mp hall y hy)⟩
      exact HV a b
    · rw[CR (List.all_eq_true.mp hall x hx),CR (List.all_eq_true.mp hall y hy),e]
  have so:=LF (B:=B) (A:=A.in1.in1) hv' hall
  refine Pb (s:={ s with heap:=h₁,toks:=tk }) (O:=HU) (r:=fun i=>Cm ((vs.map DB).getD i .none)) (fun Q' hq'=>?_) so (by omega) fun p h₂ h' tk' hg hup k₂ k3 hL=>?_
  · refine RZ (s:={ s with heap:=h₁,toks:=tk }) R.handled ho' K fun h' tk' k=>?_
    rw[hws]
    exact hq' h' tk' k
  · have I2:Inv B φ σ { s with heap:=h₂,toks:=tk' }:=I1.keep k₂ rfl rfl
    have hv2:Ak φ h' (AS (vs.map DB)) (Fg vs p):=LG (O:=HU) (c:=Cm) (hv'.keep fun b o e=>k3 b o (k₂ b o e)) (fun x y hx hy=>by
      obtain⟨a,rfl⟩:∃a,x= .int a:=⟨_,CR (List.all_eq_true.mp hall x hx)⟩
      obtain⟨b,rfl⟩:∃b,y= .int b:=⟨_,CR (List.all_eq_true.mp hall y hy)⟩
      exact HV a b) (fun x y hx hy e=>by rw[CR (List.all_eq_true.mp hall x hx),CR (List.all_eq_true.mp hall y hy),e]) hg hup
    rw[same] at hv2
    have:=Fu (X:= []) (s:={ s with heap:=h₂,toks:=tk' }) (s':={ s with heap:=h',toks:=tk' }) I2 k3 (Nat.le_refl _) hL (by simpa using hv2) (by
      have h1:=(CI (Cr xs)).length_eq
      have h2:=hperm.length_eq
      rw[List.length_map] at h2
      unfold lim; omega)
    exact this.then (.keep fun b o e=>k₂ b o (k₁ b o e))
theorem Np {e:Expr}{m:Ev}{np np2 pos pos2:Pos}(ok:BuiltinOK B sc "sorted" (.builtin "sorted"))(ok2:BuiltinOK B sc "set" (.type "set"))(he:Av B n sc e m)
    (hs:Cl e=true:=by rfl) (hst:∀env pos,(backTo pos (starEach [e] env)).any (·.1)=false:=by intro _ _; rfl):
    Av B n sc (.Call (.Name (Str.ofString "sorted") np) [.Call (.Name (Str.ofString "set") np2) [e] [] pos2] [] pos) (Jr m):=by
  intro A E env s φ σ ρ y σ' O R I F h
  refine AY h fun v σ1 hm h=>B7 h fun l xs ev hl h=>gif h fun hc h=>spair h ?_
  have hc:=(Bool.and_eq_true _ _).mp hc
  refine wpAny_Call_NameR (HO O I ok.kind ok.miss ok.boot ok.noname ?_ ok.nodebug)
  refine IH (.inr ⟨_,rfl⟩) rfl (HP rfl ?_)
  show wpAny _ _ (do
    let v ←eval (.Call (.Name (Str.ofString "set") np2) [e] [] pos2) env
    let here ←pure [v]
    return here++(←holding here (spliced (backTo pos (starEach [] env))))) _ _ s
  refine wpAny_bind (Ld ok2 (.inl ⟨_,rfl⟩) (Ac he Ad hs) O R I F (HG hm) hst fun vs s1 q=>?_)
  obtain⟨φ1,G1,I1,r₁⟩:=q
  obtain⟨u,eu,hu⟩:=FM r₁
  refine eu▸QW R.zero I1 hl (ev▸hu) hc.1 (of_decide_eq_true hc.2) fun u' s' q=>?_
  refine wpAny_bind (wpAny_pure (wpAny_bind (wpAny_holding ?_)))
  show wpAny _ _ (pure []) _ _ _
  exact wpAny_pure (wpAny_pure (wpAny_mono q (fun _ _ q=>q.then G1) fun _ _ q=>q))
end Mine
namespace Mine
open scoped Classical
open PySem PySem.W PySem.Calls PyProof.Rows
open Sem (wp)
noncomputable def DJ:String→Addr
  | "Bank" =>174
  | "Unions" =>256
  | "Heap" =>388
  | "Join" =>421
  | _=>0
structure ProgOK (B:Base):Prop where
  K:B.K=KK B.w.params
  cls:B.cls=DJ
variable {B:Base}
noncomputable def QX (sc:Scope)(x:String):Bool:=match sc.names.lookup (Str.ofString x) with
  | some .local | some .cell=>true
  | _=>false
theorem nok {sc:Scope}{x:String}(h:QX sc x=true):EF sc x:=by
  unfold QX at h
  unfold EF
  split at h
  · rename_i e; exact .inl e
  · rename_i e; exact .inr e
  · cases h
noncomputable def QY (sc:Scope)(x:String):Bool:=sc.names.lookup (Str.ofString x)==some .local
noncomputable def SA (sc csc:Scope)(caps:List String)(t:Tgt):Bool:=
  (sc.kind == .function)&&(csc.kind == .function)&&(csc.names.all fun x=>x.2 != .local || csc.names.lookup x.1==some .local)&&(csc.names.all fun y=>y.2 != .cell) &&
  (csc.names.all fun y=>y.2 != .free || sc.names.lookup y.1==some .cell) &&
  (caps.all fun x=>(csc.names.contains (Str.ofString x,NameKind.free))&&((BQ csc sc).names.lookup (Str.ofString x)==some .cell)) &&
  ((BQ csc sc).names.all fun y=>y.2 != .cell || csc.names.contains (y.1,NameKind.free)) &&
  decide (csc.names.map (·.1)).Nodup &&
  (match t with | .name x=>QY (BQ csc sc) x && !caps.contains x | .pair x y=>QY (BQ csc sc) x&&QY (BQ csc sc) y && !caps.contains x && !caps.contains y)
theorem Bm {sc csc:Scope}{caps:List String}{t:Tgt}(h:SA sc csc caps t=true):CompOK sc csc caps t:=by
  unfold SA at h
  simp only[Bool.and_eq_true] at h
  obtain⟨⟨⟨⟨⟨⟨⟨⟨h1,h2⟩,h3⟩,h4⟩,h5⟩,h6⟩,h7⟩,h8⟩,h9⟩:=h
  refine⟨by simpa using h1,by simpa using h2,fun x hx hl=>?_,fun y hy=>?_,fun y hy hf=>?_,fun x hx=>?_,fun y hy hc=>?_,of_decide_eq_true h8,?_,?_⟩
  · have:=List.all_eq_true.mp h3 x hx
    simpa [hl] using this
  · have:=List.all_eq_true.mp h4 y hy
    simpa using this
  · have:=List.all_eq_true.mp h5 y hy
    simpa [hf] using this
  · have:=List.all_eq_true.mp h6 x hx
    simpa using this
  · have:=List.all_eq_true.mp h7 y hy
    simpa [hc] using this
  · cases t with
    | name x=>simp only[Bool.and_eq_true] at h9; exact by simpa [QY,Km,IY] using h9.1
    | pair x y=>simp only[Bool.and_eq_true] at h9; exact by simpa [QY,Km,IY] using h9.1.1
  · cases t with
    | name x=>simp only[Bool.and_eq_true] at h9; simpa [HR] using h9.2
    | pair x y=>simp only[Bool.and_eq_true] at h9; simpa [HR] using And.intro h9.1.2 h9.2
theorem Cw {sc:Scope}{x:String}{p:Pos}(h:QX sc x=true):EU sc (.name x) (.Name (Str.ofString x) p):=⟨p,rfl,nok h⟩
theorem TJ {sc:Scope}{x y:String}{p q r:Pos}{k:Nat}(h:QX sc x=true)(h':QX sc y=true):EU sc (.pair x y) (.Tuple [.Name (Str.ofString x) p,.Name (Str.ofString y) q] k r):=⟨p,q,k,r,rfl,nok h,nok h'⟩
theorem fok (h:ProgOK B){c f:String}(a:plainGet (KK B.w.params) (DJ c) (Str.ofString f)=true)(b:hasDictIn (KK B.w.params) (DJ c)=true)(d:findIn (KK B.w.params) (.ref (DJ c)) (Str.ofString f)=some none):FieldOK B c f:=by
  rw[←h.K, ←h.cls] at a b d; exact⟨a,b,d⟩
theorem sok (h:ProgOK B){c f:String}(a:findIn (KK B.w.params) (.ref (DJ c)) "__setattr__" =some (some (.builtin "object.__setattr__")))(b:plainOver (KK B.w.params) (DJ c)=true)(d:takerIn (KK B.w.params) (DJ c) (Str.ofString f)=some none)(e:hasDictIn (KK B.w.params) (DJ c)=true):StoreOK B c f:=by
  rw[←h.K, ←h.cls] at a b d e; exact⟨a,b,d,e⟩
theorem mok (h:ProgOK B){c f:String}{n:Addr}(a:plainGet (KK B.w.params) (DJ c) (Str.ofString f)=true)(b:findIn (KK B.w.params) (.ref (DJ c)) (Str.ofString f)=some (some (.ref n)))(d:isFn (KK B.w.params) (.ref n)=true)(e:keepIn (KK B.w.params) (.ref n)=true):MethOK B c f n:=by
  rw[←h.K, ←h.cls] at a b; rw[←h.K] at d e; exact⟨a,b,d,e⟩
theorem cok (h:ProgOK B){c:String}{n:Addr}(a:makesIn (KK B.w.params) (DJ c)=true)(b:findIn (KK B.w.params) (.ref (DJ c)) "__init__" =some (some (.ref n)))(d:isFn (KK B.w.params) (.ref n)=true)
    (e:findIn (KK B.w.params) (.ref (DJ c)) "__setattr__" =some (some (.builtin "object.__setattr__"))) (f:plainOver (KK B.w.params) (DJ c)=true) (g:hasDictIn (KK B.w.params) (DJ c)=true):ClsOK B c n:=by
  rw[←h.K, ←h.cls] at a b e f g; rw[←h.K] at d; exact⟨a,b,d,e,f,g⟩
theorem gok (h:ProgOK B){sc:Scope}{x:String}{n:Addr}(hk:sc.names.lookup (Str.ofString x)=some .globalImplicit)(a:nsIn (KK B.w.params) mainGlobals (Str.ofString x)=some (some (.ref n)))(b:keepIn (KK B.w.params) (.ref n)=true)(d:(Str.ofString x==("__debug__" :Str))=false):GlobOK B sc x n:=by
  rw[←h.K] at a b; exact⟨hk,a,b,d⟩
theorem TK (h:ProgOK B){sc:Scope}{x:String}(hk:sc.names.lookup (Str.ofString x)=some .globalImplicit)(a:nsIn (KK B.w.params) mainGlobals (Str.ofString x)=some (some (.ref (DJ x))))(b:keepIn (KK B.w.params) (.ref (DJ x))=true)(d:(Str.ofString x==("__debug__" :Str))=false):GlobOK B sc x (B.cls x):=by
  rw[h.cls]; exact gok h hk a b d
theorem bok (h:ProgOK B){sc:Scope}{x:String}{v:Value}(hk:sc.names.lookup (Str.ofString x)=some .globalImplicit)(a:nsIn (KK B.w.params) mainGlobals (Str.ofString x)=some none)(b:bootBuiltins (Str.ofString x)=some v)
    (d:(Str.ofString x==("__name__" :Str) || Str.ofString x==("__debug__" :Str))=false):BuiltinOK B sc x v:=by
  rw[←h.K] at a; rw[Bool.or_eq_false_iff] at d; exact⟨hk,a,b,ne_of_beq_false d.1,d.2⟩
theorem BB (h:ProgOK B){f:Addr}{ps:List String}{body:List Stmt}{scope:Scope}{oc od osl name qual params dV kV doc pm an cdv ct}(hl:(KK B.w.params).lookup f=some ⟨oc,od,.func (fnX name qual params body scope [] dV kV doc pm an cdv ct),osl⟩)(hc:codeIn (KK B.w.params) cdv qual=true)
    (hb:∀vals,vals.length=ps.length→bindArgs (fnX name qual params body scope [] dV kV doc pm an cdv ct) ⟨vals, []⟩=pure ((ps.map Str.ofString).zip vals)) (hd:VA ps scope=true):DefAt B f ps body scope:=by
  rw[←h.K] at hl hc; exact .of hl hc hb hd
end Mine
namespace Mine
local macro_rules
  | `(tactic| rfl)=> `(tactic| kernel_rfl)
open scoped Classical
open PySem PySem.W PySem.Calls PyProof.Rows
variable {B:Base}
theorem Jb (h:ProgOK B):FieldOK B "Bank" "depths" :=fok h (by rfl) (by rfl) (by rfl)
theorem Dq (h:ProgOK B):FieldOK B "Bank" "nodes" :=fok h (by rfl) (by rfl) (by rfl)
theorem Gj (h:ProgOK B):FieldOK B "Bank" "numbers" :=fok h (by rfl) (by rfl) (by rfl)
theorem Ik (h:ProgOK B):FieldOK B "Bank" "weights" :=fok h (by rfl) (by rfl) (by rfl)
theorem DO (h:ProgOK B):FieldOK B "Heap" "above" :=fok h (by rfl) (by rfl) (by rfl)
theorem DH (h:ProgOK B):FieldOK B "Heap" "bank" :=fok h (by rfl) (by rfl) (by rfl)
theorem Hk (h:ProgOK B):FieldOK B "Heap" "edges" :=fok h (by rfl) (by rfl) (by rfl)
theorem Ok (h:ProgOK B):FieldOK B "Heap" "forest" :=fok h (by rfl) (by rfl) (by rfl)
theorem PP (h:ProgOK B):FieldOK B "Heap" "known" :=fok h (by rfl) (by rfl) (by rfl)
theorem DC (h:ProgOK B):FieldOK B "Heap" "unions" :=fok h (by rfl) (by rfl) (by rfl)
theorem DX (h:ProgOK B):FieldOK B "Heap" "waiting" :=fok h (by rfl) (by rfl) (by rfl)
theorem CS (h:ProgOK B):FieldOK B "Join" "heap" :=fok h (by rfl) (by rfl) (by rfl)
theorem Ol (h:ProgOK B):FieldOK B "Join" "places" :=fok h (by rfl) (by rfl) (by rfl)
theorem Ce (h:ProgOK B):FieldOK B "Unions" "above" :=fok h (by rfl) (by rfl) (by rfl)
theorem Ej (h:ProgOK B):FieldOK B "Unions" "lots" :=fok h (by rfl) (by rfl) (by rfl)
theorem My (h:ProgOK B):FieldOK B "Unions" "merged" :=fok h (by rfl) (by rfl) (by rfl)
theorem Om (h:ProgOK B):StoreOK B "Bank" "depths" :=sok h (by rfl) (by rfl) (by rfl) (by rfl)
theorem PQ (h:ProgOK B):StoreOK B "Bank" "nodes" :=sok h (by rfl) (by rfl) (by rfl) (by rfl)
theorem Nq (h:ProgOK B):StoreOK B "Bank" "numbers" :=sok h (by rfl) (by rfl) (by rfl) (by rfl)
theorem Nr (h:ProgOK B):StoreOK B "Bank" "weights" :=sok h (by rfl) (by rfl) (by rfl) (by rfl)
theorem PR (h:ProgOK B):StoreOK B "Heap" "above" :=sok h (by rfl) (by rfl) (by rfl) (by rfl)
theorem PS (h:ProgOK B):StoreOK B "Heap" "backs" :=sok h (by rfl) (by rfl) (by rfl) (by rfl)
theorem QZ (h:ProgOK B):StoreOK B "Heap" "bank" :=sok h (by rfl) (by rfl) (by rfl) (by rfl)
theorem PT (h:ProgOK B):StoreOK B "Heap" "edges" :=sok h (by rfl) (by rfl) (by rfl) (by rfl)
theorem On (h:ProgOK B):StoreOK B "Heap" "forest" :=sok h (by rfl) (by rfl) (by rfl) (by rfl)
theorem PU (h:ProgOK B):StoreOK B "Heap" "known" :=sok h (by rfl) (by rfl) (by rfl) (by rfl)
theorem Oo (h:ProgOK B):StoreOK B "Heap" "unions" :=sok h (by rfl) (by rfl) (by rfl) (by rfl)
theorem Nt (h:ProgOK B):StoreOK B "Heap" "waiting" :=sok h (by rfl) (by rfl) (by rfl) (by rfl)
theorem Q0 (h:ProgOK B):StoreOK B "Join" "heap" :=sok h (by rfl) (by rfl) (by rfl) (by rfl)
theorem Oq (h:ProgOK B):StoreOK B "Join" "places" :=sok h (by rfl) (by rfl) (by rfl) (by rfl)
theorem Nu (h:ProgOK B):StoreOK B "Unions" "above" :=sok h (by rfl) (by rfl) (by rfl) (by rfl)
theorem Os (h:ProgOK B):StoreOK B "Unions" "lots" :=sok h (by rfl) (by rfl) (by rfl) (by rfl)
theorem Mz (h:ProgOK B):StoreOK B "Unions" "merged" :=sok h (by rfl) (by rfl) (by rfl) (by rfl)
theorem Gk (h:ProgOK B):MethOK B "Bank" "kids" 138:=mok h (by rfl) (by rfl) (by rfl) (by rfl)
theorem JJ (h:ProgOK B):MethOK B "Bank" "op" 131:=mok h (by rfl) (by rfl) (by rfl) (by rfl)
theorem Nv (h:ProgOK B):MethOK B "Bank" "require" 105:=mok h (by rfl) (by rfl) (by rfl) (by rfl)
theorem Q1 (h:ProgOK B):MethOK B "Bank" "size" 93:=mok h (by rfl) (by rfl) (by rfl) (by rfl)
theorem Q2 (h:ProgOK B):MethOK B "Bank" "take" 98:=mok h (by rfl) (by rfl) (by rfl) (by rfl)
theorem Q3 (h:ProgOK B):MethOK B "Bank" "term" 150:=mok h (by rfl) (by rfl) (by rfl) (by rfl)
theorem LI (h:ProgOK B):MethOK B "Heap" "add" 291:=mok h (by rfl) (by rfl) (by rfl) (by rfl)
theorem Il (h:ProgOK B):MethOK B "Heap" "classes" 352:=mok h (by rfl) (by rfl) (by rfl) (by rfl)
theorem Df (h:ProgOK B):MethOK B "Heap" "find" 310:=mok h (by rfl) (by rfl) (by rfl) (by rfl)
theorem KC (h:ProgOK B):MethOK B "Heap" "is_settled" 345:=mok h (by rfl) (by rfl) (by rfl) (by rfl)
theorem KD (h:ProgOK B):MethOK B "Heap" "join" 331:=mok h (by rfl) (by rfl) (by rfl) (by rfl)
theorem Im (h:ProgOK B):MethOK B "Heap" "look_at" 303:=mok h (by rfl) (by rfl) (by rfl) (by rfl)
theorem Nw (h:ProgOK B):MethOK B "Heap" "members" 359:=mok h (by rfl) (by rfl) (by rfl) (by rfl)
theorem JZ (h:ProgOK B):MethOK B "Heap" "merge" 324:=mok h (by rfl) (by rfl) (by rfl) (by rfl)
theorem Q4 (h:ProgOK B):MethOK B "Heap" "node" 286:=mok h (by rfl) (by rfl) (by rfl) (by rfl)
theorem LJ (h:ProgOK B):MethOK B "Heap" "put" 296:=mok h (by rfl) (by rfl) (by rfl) (by rfl)
theorem Jc (h:ProgOK B):MethOK B "Heap" "settle" 338:=mok h (by rfl) (by rfl) (by rfl) (by rfl)
theorem HW (h:ProgOK B):MethOK B "Heap" "size" 281:=mok h (by rfl) (by rfl) (by rfl) (by rfl)
theorem HX (h:ProgOK B):MethOK B "Join" "class_of" 418:=mok h (by rfl) (by rfl) (by rfl) (by rfl)
theorem J0 (h:ProgOK B):MethOK B "Join" "taken" 411:=mok h (by rfl) (by rfl) (by rfl) (by rfl)
theorem Lp (h:ProgOK B):MethOK B "Unions" "classes" 232:=mok h (by rfl) (by rfl) (by rfl) (by rfl)
theorem Fh (h:ProgOK B):MethOK B "Unions" "find" 213:=mok h (by rfl) (by rfl) (by rfl) (by rfl)
theorem Ot (h:ProgOK B):MethOK B "Unions" "make" 199:=mok h (by rfl) (by rfl) (by rfl) (by rfl)
theorem Lq (h:ProgOK B):MethOK B "Unions" "members" 227:=mok h (by rfl) (by rfl) (by rfl) (by rfl)
theorem Nx (h:ProgOK B):MethOK B "Unions" "merge" 220:=mok h (by rfl) (by rfl) (by rfl) (by rfl)
theorem Ou (h:ProgOK B):MethOK B "Unions" "size" 206:=mok h (by rfl) (by rfl) (by rfl) (by rfl)
theorem WD (h:ProgOK B):ClsOK B "Bank" 86:=cok h (by rfl) (by rfl) (by rfl) (by rfl) (by rfl) (by rfl)
theorem SB (h:ProgOK B):ClsOK B "Heap" 274:=cok h (by rfl) (by rfl) (by rfl) (by rfl) (by rfl) (by rfl)
theorem WE (h:ProgOK B):ClsOK B "Join" 406:=cok h (by rfl) (by rfl) (by rfl) (by rfl) (by rfl) (by rfl)
theorem UM (h:ProgOK B):ClsOK B "Unions" 192:=cok h (by rfl) (by rfl) (by rfl) (by rfl) (by rfl) (by rfl)
theorem WG (h:ProgOK B){sc:Scope}(hk:sc.names.lookup (Str.ofString "Bank")=some .globalImplicit):GlobOK B sc "Bank" (B.cls "Bank"):=TK h hk (by rfl) (by rfl) (by rfl)
theorem SC (h:ProgOK B){sc:Scope}(hk:sc.names.lookup (Str.ofString "Heap")=some .globalImplicit):GlobOK B sc "Heap" (B.cls "Heap"):=TK h hk (by rfl) (by rfl) (by rfl)
theorem WH (h:ProgOK B){sc:Scope}(hk:sc.names.lookup (Str.ofString "Join")=some .globalImplicit):GlobOK B sc "Join" (B.cls "Join"):=TK h hk (by rfl) (by rfl) (by rfl)
theorem UN (h:ProgOK B){sc:Scope}(hk:sc.names.lookup (Str.ofString "Unions")=some .globalImplicit):GlobOK B sc "Unions" (B.cls "Unions"):=TK h hk (by rfl) (by rfl) (by rfl)
theorem PV (h:ProgOK B){sc:Scope}(hk:sc.names.lookup (Str.ofString "_law_closed")=some .globalImplicit):GlobOK B sc "_law_closed" 454:=gok h hk (by rfl) (by rfl) (by rfl)
theorem J1 (h:ProgOK B){sc:Scope}(hk:sc.names.lookup (Str.ofString "_law_gather")=some .globalImplicit):GlobOK B sc "_law_gather" 444:=gok h hk (by rfl) (by rfl) (by rfl)
theorem Io (h:ProgOK B){sc:Scope}(hk:sc.names.lookup (Str.ofString "_law_is_right")=some .globalImplicit):GlobOK B sc "_law_is_right" 464:=gok h hk (by rfl) (by rfl) (by rfl)
theorem D6 (h:ProgOK B){sc:Scope}(hk:sc.names.lookup (Str.ofString "_law_pick")=some .globalImplicit):GlobOK B sc "_law_pick" 432:=gok h hk (by rfl) (by rfl) (by rfl)
theorem LK (h:ProgOK B){sc:Scope}(hk:sc.names.lookup (Str.ofString "_law_side")=some .globalImplicit):GlobOK B sc "_law_side" 449:=gok h hk (by rfl) (by rfl) (by rfl)
theorem KF (h:ProgOK B){sc:Scope}(hk:sc.names.lookup (Str.ofString "_law_state")=some .globalImplicit):GlobOK B sc "_law_state" 459:=gok h hk (by rfl) (by rfl) (by rfl)
theorem LL (h:ProgOK B){sc:Scope}(hk:sc.names.lookup (Str.ofString "_law_tree")=some .globalImplicit):GlobOK B sc "_law_tree" 437:=gok h hk (by rfl) (by rfl) (by rfl)
theorem VN (h:ProgOK B){sc:Scope}(hk:sc.names.lookup (Str.ofString "is_op")=some .globalImplicit):GlobOK B sc "is_op" 67:=gok h hk (by rfl) (by rfl) (by rfl)
theorem Ov (h:ProgOK B){sc:Scope}(hk:sc.names.lookup (Str.ofString "dict")=some .globalImplicit):BuiltinOK B sc "dict" (.type "dict"):=bok h hk (by rfl) (by rfl) (by rfl)
theorem Q5 (h:ProgOK B){sc:Scope}(hk:sc.names.lookup (Str.ofString "enumerate")=some .globalImplicit):BuiltinOK B sc "enumerate" (.type "enumerate"):=bok h hk (by rfl) (by rfl) (by rfl)
theorem Dg (h:ProgOK B){sc:Scope}(hk:sc.names.lookup (Str.ofString "len")=some .globalImplicit):BuiltinOK B sc "len" (.builtin "len"):=bok h hk (by rfl) (by rfl) (by rfl)
theorem Jd (h:ProgOK B){sc:Scope}(hk:sc.names.lookup (Str.ofString "list")=some .globalImplicit):BuiltinOK B sc "list" (.type "list"):=bok h hk (by rfl) (by rfl) (by rfl)
theorem Xu (h:ProgOK B){sc:Scope}(hk:sc.names.lookup (Str.ofString "max")=some .globalImplicit):BuiltinOK B sc "max" (.builtin "max"):=bok h hk (by rfl) (by rfl) (by rfl)
theorem GE (h:ProgOK B){sc:Scope}(hk:sc.names.lookup (Str.ofString "range")=some .globalImplicit):BuiltinOK B sc "range" (.type "range"):=bok h hk (by rfl) (by rfl) (by rfl)
theorem Xv (h:ProgOK B){sc:Scope}(hk:sc.names.lookup (Str.ofString "set")=some .globalImplicit):BuiltinOK B sc "set" (.type "set"):=bok h hk (by rfl) (by rfl) (by rfl)
theorem E5 (h:ProgOK B){sc:Scope}(hk:sc.names.lookup (Str.ofString "sorted")=some .globalImplicit):BuiltinOK B sc "sorted" (.builtin "sorted"):=bok h hk (by rfl) (by rfl) (by rfl)
theorem Xw (h:ProgOK B){sc:Scope}(hk:sc.names.lookup (Str.ofString "sum")=some .globalImplicit):BuiltinOK B sc "sum" (.builtin "sum"):=bok h hk (by rfl) (by rfl) (by rfl)
theorem GF (h:ProgOK B){sc:Scope}(hk:sc.names.lookup (Str.ofString "tuple")=some .globalImplicit):BuiltinOK B sc "tuple" (.type "tuple"):=bok h hk (by rfl) (by rfl) (by rfl)
end Mine
namespace Mine
local macro_rules
  | `(tactic| rfl)=> `(tactic| kernel_rfl)
open scoped Classical
open PySem PySem.W PySem.Calls PyProof.Rows
open Sem (wp)
variable {B:Base}
theorem WI (h:ProgOK B):Be B 1 (.ref 67) NY:=
  AI (n:=0) (ps:= ["text"]) (f:=67) (BB h rfl (by rfl) (Fp fun _=>rfl) (by rfl))
    (An (AF (OR (FS Aa CV) (FS (Bk (Bm (by rfl)) (Cw (by rfl)) (Bo Aa) ⟨(E2 (Gx (E1 (PK Aa)) (EO (AQ Aa CV)))),trivial⟩ Aa) (Br Ad)))))
theorem R2 (h:ProgOK B):Be B 1 (.ref 93) IA:=
  AI (n:=0) (ps:= ["self"]) (f:=93) (BB h rfl (by rfl) (Fp fun _=>rfl) (by rfl))
    (An (AF (BZ (Dg h (by rfl)) (Am Aa (Dq h)))))
theorem KG (h:ProgOK B):Be B 1 (.ref 131) DR:=
  AI (n:=0) (ps:= ["self", "n"]) (f:=131) (BB h rfl (by rfl) (E3 fun _ _=>rfl) (by rfl))
    (An (AF (Ar (Ar (Am Aa (Dq h)) Aa) Aw)))
theorem GU (h:ProgOK B):Be B 1 (.ref 138) Cv:=
  AI (n:=0) (ps:= ["self", "n"]) (f:=138) (BB h rfl (by rfl) (E3 fun _ _=>rfl) (by rfl))
    (An (AF (DV (Ar (Am Aa (Dq h)) Aa))))
theorem R3 (h:ProgOK B):Be B 1 (.ref 86) IB:=
  AI (n:=0) (ps:= ["self"]) (f:=86) (BB h rfl (by rfl) (Fp fun _=>rfl) (by rfl))
    (Ah (AZ (PQ h) Aa (Br Ad))
    (Ah (AZ (Nq h) Aa GP)
    (Ah (AZ (Nr h) Aa (Br Ad))
    (An (AZ (Om h) Aa (Br Ad))))))
theorem PW (h:ProgOK B):Be B 1 (.ref 192) Hh:=
  AI (n:=0) (ps:= ["self"]) (f:=192) (BB h rfl (by rfl) (Fp fun _=>rfl) (by rfl))
    (Ah (AZ (Nu h) Aa (Br Ad))
    (Ah (AZ (Os h) Aa (Br Ad))
    (An (AZ (Mz h) Aa (Br Ad)))))
theorem PX (h:ProgOK B):Be B 1 (.ref 199) Hi:=
  AI (n:=0) (ps:= ["self"]) (f:=199) (BB h rfl (by rfl) (Fp fun _=>rfl) (by rfl))
    (Ah (AV (B9 (Am Aa (Ce h)) (BZ (Dg h (by rfl)) (Am Aa (Ce h)))))
    (Ah (AV (B9 (Am Aa (Ej h)) (Br (Ac (BZ (Dg h (by rfl)) (Am Aa (Ej h))) Ad))))
    (An (AF (AR (BZ (Dg h (by rfl)) (Am Aa (Ce h))) Aw)))))
theorem PY (h:ProgOK B):Be B 1 (.ref 206) FA:=
  AI (n:=0) (ps:= ["self"]) (f:=206) (BB h rfl (by rfl) (Fp fun _=>rfl) (by rfl))
    (An (AF (BZ (Dg h (by rfl)) (Am Aa (Ce h)))))
theorem FF (h:ProgOK B):Be B 1 (.ref 213) DM:=
  AI (n:=0) (ps:= ["self", "a"]) (f:=213) (BB h rfl (by rfl) (E3 fun _ _=>rfl) (by rfl))
    (Ah (GR (AQ (Ar (Am Aa (Ce h)) Aa) Aa) (An (BG (Ar (Am Aa (Ce h)) Aa) (nok (by rfl)))))
    (An (AF Aa)))
theorem MA (h:ProgOK B):Be B 1 (.ref 232) FL:=
  AI (n:=0) (ps:= ["self"]) (f:=232) (BB h rfl (by rfl) (Fp fun _=>rfl) (by rfl))
    (An (AF (Bk (Bm (by rfl)) (Cw (by rfl)) (Ff (GE h (by rfl)) (BZ (Dg h (by rfl)) (Am Aa (Ce h)))) ⟨(AQ (Ar (Am Aa (Ce h)) Aa) Aa),trivial⟩ Aa)))
theorem Lr (h:ProgOK B):Be B 1 (.ref 345) Fo:=
  AI (n:=0) (ps:= ["self"]) (f:=345) (BB h rfl (by rfl) (Fp fun _=>rfl) (by rfl))
    (An (AF (FS (BZ (Dg h (by rfl)) (Am Aa (DX h))) Aw)))
theorem Ey (h:ProgOK B):Be B 1 (.ref 432) AT:=
  AI (n:=0) (ps:= ["tape", "many"]) (f:=432) (BB h rfl (by rfl) (E3 fun _ _=>rfl) (by rfl))
    (Ah (Fe Aa (nok (by rfl)) (nok (by rfl)) (hw:=Fs fun _=>by rfl))
    (Ah (Dp Aa Aw (AR Aa Aw))
    (An (AF (AR (Gy (AQ Aa (BZ (Dg h (by rfl)) Aa)) (Ar Aa Aa) (AR (AR (AR (AR (AR Aw Aa) Aa) (AR Aw Aa)) Aw) Aw)) Aa)))))
theorem Q6 (h:ProgOK B)(k:Nat):Be B (k+1) (.ref 444) (CO k):=by
  induction k with
  | zero=>exact Jy
  | succ k hrec=>
    exact AI (n:=k+1) (ps:= ["tree", "found"]) (f:=444) (m:=Kd (CO k)) (BB h rfl (by rfl) (E3 fun _ _=>rfl) (by rfl))
      (Ah (CW (Bo (DV Aa)) (An (AV (BA (J1 h (by rfl)) hrec (Ac Aa (Ac Aa Ad))))) (Cw (by rfl)))
    (An (Cq (AQ Aa Aa) (An (AV (B9 Aa Aa))) BU)))
theorem Q7 (h:ProgOK B):Be B 1 (.ref 454) FZ:=
  AI (n:=0) (ps:= ["some", "told"]) (f:=454) (BB h rfl (by rfl) (E3 fun _ _=>rfl) (by rfl))
    (Ah (Fe (Bt (Ac (HS (Ov h (by rfl)) (Bk (Bm (by rfl)) (TJ (by rfl) (by rfl)) (Us (Q5 h (by rfl)) Aa) trivial (Bt (Ac Aa (Ac Aa Ad))))) (Ac CQ Ad))) (nok (by rfl)) (nok (by rfl)) (hw:=Fs fun _=>by rfl))
    (Ah (GR (E1 Aa) (Ah (BG CQ (nok (by rfl)))
    (An (CW (Bo Aa) (An (CW (Bo Aa) (Ah (BG (OR (FS (Ar Aa Aw) (Ar Aa Aw)) (FS (Bk (Bm (by rfl)) (Cw (by rfl)) (Bo (DV Aa)) trivial (Ar Aa Aa)) (Bk (Bm (by rfl)) (Cw (by rfl)) (Bo (DV Aa)) trivial (Ar Aa Aa)))) (nok (by rfl)))
    (An (Cq (E2 (Vy (AQ (Ar Aa Aa) (Ar Aa Aa)) (Qw (E2 (Gx (E1 Aa) (EO (AQ (Bt (Ac Aa (Ac Aa Ad))) Aa))))))) (Ah (Fe (Ei (E5 h (by rfl)) (Br (Ac (Ar Aa Aa) (Ac (Ar Aa Aa) Ad)))) (nok (by rfl)) (nok (by rfl)) (hw:=Fs fun _=>by rfl))
    (Ah (BG (HS (Ov h (by rfl)) (Bk (Bm (by rfl)) (TJ (by rfl) (by rfl)) (Nc Aa) trivial (Bt (Ac Aa (Ac (Gy (AQ Aa Aa) Aa Aa) Ad))))) (nok (by rfl)))
    (An (BG CQ (nok (by rfl)))))) BU))) (Cw (by rfl)))) (Cw (by rfl))))))
    (An (AF Aa))))
theorem Ow (h:ProgOK B):Be B 2 (.ref 105) Gu:=
  AI (n:=1) (ps:= ["self", "op"]) (f:=105) (BB h rfl (by rfl) (E3 fun _ _=>rfl) (by rfl))
    (An (Cq (E2 (Gx (Ha (E1 (BA (VN h (by rfl)) ((WI h).up rfl) (Ac Aa Ad)))) (EO (AQ (Ar Aa Aw) CV)))) (An M9) BU))
theorem R4 (h:ProgOK B):Be B 2 (.ref 150) EL:=
  AI (n:=1) (ps:= ["self", "n"]) (f:=150) (BB h rfl (by rfl) (E3 fun _ _=>rfl) (by rfl))
    (Ah (Ho (Bt (Ac (RP Aa CQ) (Ac (Br (Ac Aa Ad)) Ad))) (nok (by rfl)) (nok (by rfl)) (by decide) (hw:=Fs fun _=>by rfl))
    (Ah (GR (AQ (BZ (Dg h (by rfl)) Aa) Aw) (An (CW (Bo (Ay (Gk h) ((GU h).up rfl) Aa (Ac (O4 Aa) Ad))) (An (Cq (AQ Aa Aa) (Ah (Dp Aa Aa CQ)
    (An (AV (B9 Aa Aa)))) BU)) (Cw (by rfl)))))
    (Ah (BG GP (nok (by rfl)))
    (Ah (CW (Bo (Ei (E5 h (by rfl)) Aa)) (An (Dp Aa Aa (AR (Bt (Ac (Ay (JJ h) ((KG h).up rfl) Aa (Ac Aa Ad)) Ad)) (DN (GF h (by rfl)) (Bk (Bm (by rfl)) (Cw (by rfl)) (Bo (Ay (Gk h) ((GU h).up rfl) Aa (Ac Aa Ad))) trivial (Ar Aa Aa)))))) (Cw (by rfl)))
    (An (AF (Ar Aa Aa)))))))
theorem Ox (h:ProgOK B):Be B 2 (.ref 220) Fa:=
  AI (n:=1) (ps:= ["self", "a", "b"]) (f:=220) (BB h rfl (by rfl) (Mk fun _ _ _=>rfl) (by rfl))
    (Ah (Fe (Ei (E5 h (by rfl)) (Br (Ac (Ay (Fh h) ((FF h).up rfl) Aa (Ac Aa Ad)) (Ac (Ay (Fh h) ((FF h).up rfl) Aa (Ac Aa Ad)) Ad)))) (nok (by rfl)) (nok (by rfl)) (hw:=Fs fun _=>by rfl))
    (Ah (Cq (AQ Aa Aa) (An (AF M2)) BU)
    (Ah (Dp (Am Aa (Ce h)) Aa Aa)
    (Ah (AV (Ks (Ar (Am Aa (Ej h)) Aa) (Ar (Am Aa (Ej h)) Aa)))
    (Ah (AV (B9 (Am Aa (My h)) (Bt (Ac Aa (Ac Aa Ad)))))
    (An (AF (Bt (Ac Aa (Ac Aa Ad))))))))))
theorem MB (h:ProgOK B):Be B 2 (.ref 227) FK:=
  AI (n:=1) (ps:= ["self", "a"]) (f:=227) (BB h rfl (by rfl) (E3 fun _ _=>rfl) (by rfl))
    (An (AF (Ei (E5 h (by rfl)) (Ar (Am Aa (Ej h)) (Ay (Fh h) ((FF h).up rfl) Aa (Ac Aa Ad))))))
theorem IK (h:ProgOK B):Be B 2 (.ref 281) Fq:=
  AI (n:=1) (ps:= ["self"]) (f:=281) (BB h rfl (by rfl) (Fp fun _=>rfl) (by rfl))
    (An (AF (Ay (Q1 h) ((R2 h).up rfl) (Am Aa (DH h)) Ad)))
theorem Dy (h:ProgOK B):Be B 2 (.ref 310) Bu:=
  AI (n:=1) (ps:= ["self", "n"]) (f:=310) (BB h rfl (by rfl) (E3 fun _ _=>rfl) (by rfl))
    (An (AF (Ay (Fh h) ((FF h).up rfl) (Am Aa (DC h)) (Ac Aa Ad))))
theorem Je (h:ProgOK B):Be B 2 (.ref 352) Eg:=
  AI (n:=1) (ps:= ["self"]) (f:=352) (BB h rfl (by rfl) (Fp fun _=>rfl) (by rfl))
    (An (AF (Ay (Lp h) ((MA h).up rfl) (Am Aa (DC h)) Ad)))
theorem TL (h:ProgOK B)(k:Nat):Be B (k+2) (.ref 437) (CB k):=by
  induction k with
  | zero=>exact Jy
  | succ k hrec=>
    exact AI (n:=k+2) (ps:= ["tape", "deep"]) (f:=437) (m:=MX (CB k)) (BB h rfl (by rfl) (E3 fun _ _=>rfl) (by rfl))
      (Ah (BG (Gy (AQ Aa Aw) (BA (D6 h (by rfl)) ((Ey h).up rfl) (Ac Aa (Ac Aw Ad))) Aw) (nok (by rfl)))
    (Ah (Cq (AQ Aa Aw) (An (AF (Bt (Ac (Ar CV (BA (D6 h (by rfl)) ((Ey h).up rfl) (Ac Aa (Ac Aw Ad)))) Ad)))) BU)
    (An (AF (AR (Bt (Ac (Gy (AQ Aa Aw) CV CV) Ad)) (DN (GF h (by rfl)) (Bk (Bm (by rfl)) (Cw (by rfl)) (Ff (GE h (by rfl)) (Gy (AQ Aa Aw) Aw Aw)) trivial (BA (LL h (by rfl)) hrec (Ac Aa (Ac (AR Aa Aw) Ad))))))))))
theorem R5 (h:ProgOK B):Be B 3 (.ref 98) GM:=
  AI (n:=2) (ps:= ["self", "op", "kids"]) (f:=98) (BB h rfl (by rfl) (Mk fun _ _ _=>rfl) (by rfl))
    (Ah (BG (AR (Bt (Ac Aa Ad)) (DN (GF h (by rfl)) Aa)) (nok (by rfl)))
    (Ah (Cq (AQ Aa (Am Aa (Gj h))) (An (AF (Ar (Am Aa (Gj h)) Aa))) BU)
    (Ah (AV (Ay (Nv h) ((Ow h).up rfl) Aa (Ac Aa Ad)))
    (Ah (CW (Bo (DV Aa)) (An (Cq (Ha (RO Aw Aa (BZ (Dg h (by rfl)) (Am Aa (Dq h))))) (An M9) BU)) (Cw (by rfl)))
    (Ah (Dp (Am Aa (Gj h)) Aa (BZ (Dg h (by rfl)) (Am Aa (Dq h))))
    (Ah (AV (B9 (Am Aa (Dq h)) Aa))
    (Ah (AV (B9 (Am Aa (Ik h)) (AR Aw (Uv (Xw h (by rfl)) (Bk (Bm (by rfl)) (Cw (by rfl)) (Bo (DV Aa)) trivial (Ar (Am Aa (Ik h)) Aa))))))
    (Ah (AV (B9 (Am Aa (Jb h)) (AR Aw (Uw (Xu h (by rfl)) (AR (Bk (Bm (by rfl)) (Cw (by rfl)) (Bo (DV Aa)) trivial (Ar (Am Aa (Jb h)) Aa)) (Br (Ac Aw Ad)))))))
    (An (AF (AR (BZ (Dg h (by rfl)) (Am Aa (Dq h))) Aw)))))))))))
theorem LM (h:ProgOK B):Be B 3 (.ref 274) EM:=
  AI (n:=2) (ps:= ["self"]) (f:=274) (BB h rfl (by rfl) (Fp fun _=>rfl) (by rfl))
    (Ah (AZ (QZ h) Aa (Hc (WG h (by rfl)) (WD h) ((R3 h).up rfl) Ad))
    (Ah (AZ (Oo h) Aa (Hc (UN h (by rfl)) (UM h) ((PW h).up rfl) Ad))
    (Ah (AZ (PT h) Aa (Br Ad))
    (Ah (AZ (On h) Aa (Br Ad))
    (Ah (AZ (PU h) Aa GP)
    (Ah (AZ (PR h) Aa GP)
    (Ah (AZ (Nt h) Aa (Br Ad))
    (An (AZ (PS h) Aa Aw)))))))))
theorem R6 (h:ProgOK B):Be B 3 (.ref 286) Fr:=
  AI (n:=2) (ps:= ["self", "n"]) (f:=286) (BB h rfl (by rfl) (E3 fun _ _=>rfl) (by rfl))
    (An (AF (AR (Bt (Ac (Ay (JJ h) ((KG h).up rfl) (Am Aa (DH h)) (Ac Aa Ad)) Ad)) (DN (GF h (by rfl)) (Bk (Bm (by rfl)) (Cw (by rfl)) (Bo (Ay (Gk h) ((GU h).up rfl) (Am Aa (DH h)) (Ac Aa Ad))) trivial (Ay (Df h) ((Dy h).up rfl) Aa (Ac Aa Ad)))))))
theorem LN (h:ProgOK B):Be B 3 (.ref 331) GN:=
  AI (n:=2) (ps:= ["self", "a", "b", "reason"]) (f:=331) (BB h rfl (by rfl) (Xl fun _ _ _ _=>rfl) (by rfl))
    (Ah (AV (B9 (Am Aa (Hk h)) (Bt (Ac Aa (Ac Aa (Ac Aa Ad))))))
    (Ah (BG (Ay (Nx h) ((Ox h).up rfl) (Am Aa (DC h)) (Ac Aa (Ac Aa Ad))) (nok (by rfl)))
    (Ah (Cq (AQ Aa M2) (An (AF CQ)) BU)
    (Ah (Fe Aa (nok (by rfl)) (nok (by rfl)) (hw:=Fs fun _=>by rfl))
    (Ah (AV (B9 (Am Aa (Ok h)) (AR (BZ (Dg h (by rfl)) (Am Aa (Hk h))) Aw)))
    (Ah (AV (Ks (Am Aa (DX h)) (Ar (Am Aa (DO h)) Aa)))
    (Ah (Dp (Am Aa (DO h)) Aa (AR (Ar (Am Aa (DO h)) Aa) (QG (Am Aa (DO h)) Aa)))
    (An (AF CQ)))))))))
theorem Oy (h:ProgOK B):Be B 3 (.ref 359) Fb:=
  AI (n:=2) (ps:= ["self", "c"]) (f:=359) (BB h rfl (by rfl) (E3 fun _ _=>rfl) (by rfl))
    (An (AF (Ay (Lq h) ((MB h).up rfl) (Am Aa (DC h)) (Ac Aa Ad))))
theorem Ip (h:ProgOK B):Be B 3 (.ref 418) Dj:=
  AI (n:=2) (ps:= ["self", "side", "n"]) (f:=418) (BB h rfl (by rfl) (Mk fun _ _ _=>rfl) (by rfl))
    (An (AF (Ay (Df h) ((Dy h).up rfl) (Am Aa (CS h)) (Ac (Ar (Ar (Am Aa (Ol h)) Aa) Aa) Ad))))
theorem LO (h:ProgOK B):Be B 3 (.ref 459) D4:=
  AI (n:=2) (ps:= ["heap"]) (f:=459) (BB h rfl (by rfl) (Fp fun _=>rfl) (by rfl))
    (An (AF (Bt (Ac (Bk (Bm (by rfl)) (Cw (by rfl)) (Ff (GE h (by rfl)) (Ay (HW h) ((IK h).up rfl) Aa Ad)) trivial (Ay (Df h) ((Dy h).up rfl) Aa (Ac Aa Ad))) (Ac (Gg (Jd h (by rfl)) (Am Aa (Hk h))) (Ac (Gg (Jd h (by rfl)) (Am Aa (DX h))) (Ac (Gg (Jd h (by rfl)) (Ay (Il h) ((Je h).up rfl) Aa Ad)) Ad)))))))
theorem Jf (h:ProgOK B):Be B 4 (.ref 303) Ef:=
  AI (n:=3) (ps:= ["self", "n"]) (f:=303) (BB h rfl (by rfl) (E3 fun _ _=>rfl) (by rfl))
    (Ah (BG (Mr (Am Aa (PP h)) (Ay (Q4 h) ((R6 h).up rfl) Aa (Ac Aa Ad)) Aa) (nok (by rfl)))
    (An (Cq (AQ (Ay (Df h) ((Dy h).up rfl) Aa (Ac Aa Ad)) (Ay (Df h) ((Dy h).up rfl) Aa (Ac Aa Ad))) (An (AV (Ay (KD h) ((LN h).up rfl) Aa (Ac Aa (Ac Aa (Ac (Bt (Ac CV Ad)) Ad)))))) BU)))
theorem KH (h:ProgOK B):Be B 4 (.ref 324) DE:=
  AI (n:=3) (ps:= ["self", "a", "b", "reason"]) (f:=324) (BB h rfl (by rfl) (Xl fun _ _ _ _=>rfl) (by rfl))
    (An (AF (Ay (KD h) ((LN h).up rfl) Aa (Ac Aa (Ac Aa (Ac Aa Ad))))))
theorem Ny (h:ProgOK B):Be B 5 (.ref 291) DS:=
  AI (n:=4) (ps:= ["self", "op", "numbers"]) (f:=291) (BB h rfl (by rfl) (Mk fun _ _ _=>rfl) (by rfl))
    (Ah (BG (Ay (Q2 h) ((R5 h).up rfl) (Am Aa (DH h)) (Ac Aa (Ac Aa Ad))) (nok (by rfl)))
    (Ah (Cq (AQ Aa (Ay (Ou h) ((PY h).up rfl) (Am Aa (DC h)) Ad)) (An (AF Aa)) BU)
    (Ah (AV (Ay (Ot h) ((PX h).up rfl) (Am Aa (DC h)) Ad))
    (Ah (Dp (Am Aa (DO h)) Aa (Br Ad))
    (Ah (CW (Bo (Np (E5 h (by rfl)) (Xv h (by rfl)) (Bk (Bm (by rfl)) (Cw (by rfl)) (Bo Aa) trivial (Ay (Df h) ((Dy h).up rfl) Aa (Ac Aa Ad))))) (An (AV (B9 (Ar (Am Aa (DO h)) Aa) Aa))) (Cw (by rfl)))
    (Ah (AV (Ay (Im h) ((Jf h).up rfl) Aa (Ac Aa Ad)))
    (An (AF Aa))))))))
theorem J2 (h:ProgOK B):Be B 5 (.ref 338) ED:=
  AI (n:=4) (ps:= ["self"]) (f:=338) (BB h rfl (by rfl) (Fp fun _=>rfl) (by rfl))
    (An (GR (AQ (BZ (Dg h (by rfl)) (Am Aa (DX h))) Aw) (An (AV (Ay (Im h) ((Jf h).up rfl) Aa (Ac (O4 (Am Aa (DX h))) Ad))))))
theorem TM (h:ProgOK B)(k:Nat):Be B (k+6) (.ref 296) (C4 k):=by
  induction k with
  | zero=>exact Jy
  | succ k hrec=>
    exact AI (n:=k+6) (ps:= ["self", "term"]) (f:=296) (m:=MV (C4 k)) (BB h rfl (by rfl) (E3 fun _ _=>rfl) (by rfl))
      (An (AF (Ay (LI h) ((Ny h).up rfl) Aa (Ac (Ar Aa Aw) (Ac (DN (GF h (by rfl)) (Bk (Bm (by rfl)) (Cw (by rfl)) (Bo (DV Aa)) trivial (Ay (LJ h) hrec Aa (Ac Aa Ad)))) Ad)))))
theorem KI (h:ProgOK B):Be B 6 (.ref 411) Eh:=
  AI (n:=5) (ps:= ["self", "heap", "label"]) (f:=411) (BB h rfl (by rfl) (Mk fun _ _ _=>rfl) (by rfl))
    (Ah (BG (Br Ad) (nok (by rfl)))
    (Ah (CW (Ff (GE h (by rfl)) (Ay (HW h) ((IK h).up rfl) Aa Ad)) (Ah (AV (B9 Aa (Ay (LI h) ((Ny h).up rfl) (Am Aa (CS h)) (Ac (Ay (JJ h) ((KG h).up rfl) (Am Aa (DH h)) (Ac Aa Ad)) (Ac (DN (GF h (by rfl)) (Bk (Bm (by rfl)) (Cw (by rfl)) (Bo (Ay (Gk h) ((GU h).up rfl) (Am Aa (DH h)) (Ac Aa Ad))) trivial (Ar Aa Aa))) Ad)))))
    (An (Cq (AQ (Ay (Df h) ((Dy h).up rfl) Aa (Ac Aa Ad)) Aa) (An (AV (Ay (JZ h) ((KH h).up rfl) (Am Aa (CS h)) (Ac (Ar Aa (Ay (Df h) ((Dy h).up rfl) Aa (Ac Aa Ad))) (Ac (Ar Aa Aa) (Ac (Bt (Ac CV (Ac Aa Ad))) Ad)))))) BU))) (Cw (by rfl)))
    (An (AF Aa))))
theorem R7 (h:ProgOK B):Be B 7 (.ref 406) IC:=
  AI (n:=6) (ps:= ["self", "one", "other"]) (f:=406) (BB h rfl (by rfl) (Mk fun _ _ _=>rfl) (by rfl))
    (Ah (AZ (Q0 h) Aa (Hc (SC h (by rfl)) (SB h) ((LM h).up rfl) Ad))
    (Ah (AZ (Oq h) Aa (Br (Ac (Ay (J0 h) ((KI h).up rfl) Aa (Ac Aa (Ac CV Ad))) (Ac (Ay (J0 h) ((KI h).up rfl) Aa (Ac Aa (Ac CV Ad))) Ad))))
    (An (AV (Ay (Jc h) ((J2 h).up rfl) (Am Aa (CS h)) Ad)))))
theorem Jg (h:ProgOK B):Be B 9 (.ref 464) Fc:=
  AI (n:=8) (ps:= ["sides", "home"]) (f:=464) (BB h rfl (by rfl) (E3 fun _ _=>rfl) (by rfl))
    (Ah (BG (Hc (WH h (by rfl)) (WE h) ((R7 h).up rfl) (Ac (Ar (Ar Aa Aw) Aw) (Ac (Ar (Ar Aa Aw) Aw) Ad))) (nok (by rfl)))
    (Ah (Cq (E2 (Gx (AQ (Ay (HW h) ((IK h).up rfl) (Am Aa (CS h)) Ad) (BZ (Dg h (by rfl)) Aa)) (EO (Ha (E1 (Ay (KC h) ((Lr h).up rfl) (Am Aa (CS h)) Ad)))))) (An (AF CQ)) BU)
    (Ah (CW (Bo (Bt (Ac Aw (Ac Aw Ad)))) (An (CW (Nc (Ar (Ar Aa Aa) Aw)) (Ah (BG (Ay (HX h) ((Ip h).up rfl) Aa (Ac Aa (Ac Aa Ad))) (nok (by rfl)))
    (Ah (BG (Gy (AQ Aa (Ay (Il h) ((Je h).up rfl) (Am Aa (CS h)) Ad)) (Ay (Nw h) ((Oy h).up rfl) (Am Aa (CS h)) (Ac Aa Ad)) (Br Ad)) (nok (by rfl)))
    (Ah (BG (Ei (E5 h (by rfl)) (Bk (Bm (by rfl)) (Cw (by rfl)) (Bo Aa) ⟨(AQ (Ar Aa Aa) (Ar Aa Aa)),trivial⟩ Aa)) (nok (by rfl)))
    (An (Cq (E2 (Gx (AQ (Ei (E5 h (by rfl)) (Bk (Bm (by rfl)) (Cw (by rfl)) (Bo Aa) trivial (Ay (Q3 h) ((R4 h).up rfl) (Am (Am Aa (CS h)) (DH h)) (Ac Aa Ad)))) Aa) (Gx (AQ (Ar Aa Aw) Aa) (EO (AQ (Ay (HX h) ((Ip h).up rfl) Aa (Ac Aa (Ac Aa Ad))) Aa))))) (An (AF CQ)) BU))))) (TJ (by rfl) (by rfl)))) (Cw (by rfl)))
    (An (AF CQ)))))
theorem Nz (h:ProgOK B):Be B 11 (.ref 449) FY:=
  AI (n:=10) (ps:= ["tape"]) (f:=449) (BB h rfl (by rfl) (Fp fun _=>rfl) (by rfl))
    (Ah (Fe (Bt (Ac (Hc (SC h (by rfl)) (SB h) ((LM h).up rfl) Ad) (Ac (Br Ad) Ad))) (nok (by rfl)) (nok (by rfl)) (hw:=Fs fun _=>by rfl))
    (Ah (JX (Bm (by rfl)) (Cw (by rfl)) (Ff (GE h (by rfl)) (AR Aw (BA (D6 h (by rfl)) ((Ey h).up rfl) (Ac Aa (Ac Aw Ad))))) trivial (BA (LL h (by rfl)) ((TL h 4).up rfl) (Ac Aa (Ac Aw Ad))) (nok (by rfl)) (Fs fun _=>by rfl))
    (Ah (CW (Bo Aa) (An (AV (BA (J1 h (by rfl)) ((Q6 h 4).up rfl) (Ac Aa (Ac Aa Ad))))) (Cw (by rfl)))
    (Ah (BG (HS (Ov h (by rfl)) (Bk (Bm (by rfl)) (Cw (by rfl)) (Bo Aa) trivial (Bt (Ac Aa (Ac (Ay (LJ h) ((TM h 4).up rfl) Aa (Ac Aa Ad)) Ad))))) (nok (by rfl)))
    (Ah (JX (Bm (by rfl)) (Cw (by rfl)) (Ff (GE h (by rfl)) (BA (D6 h (by rfl)) ((Ey h).up rfl) (Ac Aa (Ac Aw Ad)))) trivial (Bt (Ac (Ar Aa (BA (D6 h (by rfl)) ((Ey h).up rfl) (Ac Aa (Ac (BZ (Dg h (by rfl)) Aa) Ad)))) (Ac (Ar Aa (BA (D6 h (by rfl)) ((Ey h).up rfl) (Ac Aa (Ac (BZ (Dg h (by rfl)) Aa) Ad)))) Ad))) (nok (by rfl)) (Fs fun _=>by rfl))
    (Ah (CW (Bo Aa) (An (AV (Ay (JZ h) ((KH h).up rfl) Aa (Ac (Ar Aa Aa) (Ac (Ar Aa Aa) (Ac (Bt (Ac CV (Ac CV Ad))) Ad)))))) (TJ (by rfl) (by rfl)))
    (Ah (Cq (AQ (BA (D6 h (by rfl)) ((Ey h).up rfl) (Ac Aa (Ac Aw Ad))) Aw) (An (AV (Ay (Jc h) ((J2 h).up rfl) Aa Ad))) BU)
    (An (AF (Bt (Ac Aa (Ac Aa (Ac Aa Ad)))))))))))))
end Mine
namespace Mine
open scoped Classical
open PySem PySem.W PySem.Calls PyProof.Rows
open Sem (wp)
variable {B:Base}{X Y:List Addr}{φ φ' φ1 φ2 φ0:Phi}{σ σ' σ1 σ₂ σ0:Hp}{h h' h1 h₂:Heap}{s s' s1 s2 s0:Shared}{n:Nat}{sc:Scope}{env:Env}{ρ ρ':Rho}{A:Around}{E:Value→Shared→Prop}
theorem UO (items:Array Value)(b:Nat):slicePick items none (some b) none=(items.toList.take b).toArray:=by
  have e:sliceBounds none (some (b:Int)) none items.size=(((0:Nat):Int),((min b items.size:Nat):Int),1):=by
    simp only[sliceBounds,Option.getD_none]
    have h2:¬ ((b:Int)<0):=by omega
    simp only[h2,if_false,show(1:Int)>0 by decide,if_true]
    congr 1
    congr 1; omega
  unfold slicePick
  rw[e]
  simp only[sliceRange_one,pick_run]
  simp only[Nat.sub_zero,List.drop_zero]
  congr 1
  rcases Nat.le_total b items.size with hb | hb
  · rw[Nat.min_eq_left hb]
  · rw[Nat.min_eq_right hb,List.take_of_length_le (by simp),List.take_of_length_le (by simpa using hb)]
theorem Pg:∀{vs:List Value} {ns:List Int},IntsAre vs ns→Ak φ h (ns.map SV.int) vs
  | [], [],_=>Ak.nil'.mpr rfl
  | _::_,_::_,.cons _ _ r=>Ak.cons'.mpr ⟨by simp only[Al]; exact⟨_,rfl⟩,Pg r⟩
theorem TN {sa:Addr}{vs:List Value}{ns:List Int}{p0 p1 p2 p3 p4 p5 p6 p7 p8:Pos}{k1 k2:Nat}(ok:BuiltinOK B sc "list" (.type "list"))(hL:B.S.heap.IsList sa vs.toArray)(hI:IntsAre vs ns)(hlen:vs.length≤63)
    (O:EnvOK sc env) (R:By A n) (I:Inv B [] [] s) (F:FrameOK B env [] [] s.heap) (hns:∃m,s.heap.Ns env.locals m∧m (Str.ofString "script")=some (.ref sa))
    (hk:sc.names.lookup (Str.ofString "script")=some .local) (ht:EF sc "tape")
    (hs:∀env,swapsWith (.List [.Call (.Name (Str.ofString "list") p0) [.Subscript (.Name (Str.ofString "script") p1) (.Slice none (some (.Constant (.int 40) k1 p2)) none p3) p4] [] p5,.Constant (.int 0) k2 p6] p7)
      (some (.Name (Str.ofString "tape") p8)) p8.line env=pure false:=by intro _; rfl):
    wpAny (model B.prog B.w) A (exec (.Assign [.Name (Str.ofString "tape") p8] (.List [.Call (.Name (Str.ofString "list") p0) [.Subscript (.Name (Str.ofString "script") p1) (.Slice none (some (.Constant (.int 40) k1 p2)) none p3) p4] [] p5,.Constant (.int 0) k2 p6] p7) p8) env)
      (Gd B env [] [] s.heap .next [("tape",.loc 1)] [.list ((ns.take 40).map .int),.list [.loc 0,.int 0]]) E s:=by
  refine wpAny_Assign_Name ?_ (hs env)
  have hL':s.heap.IsList sa vs.toArray:=by obtain⟨o,ho,r⟩:=hL; exact⟨o,I.base _ _ ho,r⟩
  have key:∀pos,wpAny (model B.prog B.w) A (spliced (backTo pos (starEach [.Call (.Name (Str.ofString "list") p0) [.Subscript (.Name (Str.ofString "script") p1) (.Slice none (some (.Constant (.int 40) k1 p2)) none p3) p4] [] p5,.Constant (.int 0) k2 p6] env)))
      (IW B [] [] [] s.heap [.loc 0,.int 0] [.list ((ns.take 40).map .int)]) E s:=by
    intro pos
    rw[JT rfl]
    show wpAny _ _ (do
      let v ←eval (.Call (.Name (Str.ofString "list") p0) [.Subscript (.Name (Str.ofString "script") p1) (.Slice none (some (.Constant (.int 40) k1 p2)) none p3) p4] [] p5) env
      let here ←pure [v]
      return here++(←holding here (spliced (backTo pos (starEach [.Constant (.int 0) k2 p6] env))))) _ _ s
    have first:wpAny (model B.prog B.w) A (eval (.Call (.Name (Str.ofString "list") p0) [.Subscript (.Name (Str.ofString "script") p1) (.Slice none (some (.Constant (.int 40) k1 p2)) none p3) p4] [] p5) env)
        (BO B [] [] [] s.heap (.loc 0) [.list ((ns.take 40).map .int)]) E s:=by
      refine wpAny_Call_NameR (HO O I ok.kind ok.miss ok.boot ok.noname ?_ ok.nodebug)
      refine IH (.inl ⟨_,rfl⟩) rfl ?_
      show wpAny _ A (evalArgs (.type "list") true [(false,eval (.Subscript (.Name (Str.ofString "script") p1) (.Slice none (some (.Constant (.int 40) k1 p2)) none p3) p4) env)] []) _ E s
      obtain⟨m,hn,hm⟩:=hns
      have hkf:env.scope.kind= .function:=O.scope▸O.kind
      have hko:env.kindOf (Str.ofString "script")=some .local:=by rw[Env.kindOf,O.scope]; exact hk
      refine evalArgs_plain (spliced_cons (wpAny_mono (Q:=fun v s1=>wpAny (model B.prog B.w) A (call (.type "list") [v]) (BO B [] [] [] s.heap (.loc 0) [.list ((ns.take 40).map .int)]) E s1)
        (wpAny_Subscript_list_slice (wpAny_Name (wpAny_loadName_local hkf hko hn hm (wpAny_evalPart_none (wpAny_evalPart_some (wpAny_Constant_int ?_)))) (by decide))) (fun v s1 h1=>spliced_nil h1) fun _ _ q=>q))
      refine⟨sa,vs.toArray,none,some 40,rfl,hL',by rw[List.size_toArray]; unfold sizeLine; omega,.none,.int 40 _,?_⟩
      have hp:slicePick vs.toArray none (some 40) none=(vs.take 40).toArray:=by simpa using UO vs.toArray 40
      rw[hp]
      dsimp only
      have hsz1:(s.heap.push { cls:= .type "slice",data:= .fields #[.none,.int 40 s.toks,.none] }).objs.size=s.heap.objs.size+1:=Heap.size_push _ _
      rw[←hsz1]
      have k1:∀b o,s.heap.get? b=some o→(s.heap.push { cls:= .type "slice",data:= .fields #[.none,.int 40 s.toks,.none] }).get? b=some o:=Ax _
      generalize s.heap.push { cls:= .type "slice",data:= .fields #[.none,.int 40 s.toks,.none] }=H at k1 ⊢
      have hl40:(vs.take 40).length≤40:=by simp; omega
      have k2:∀b o,s.heap.get? b=some o→(H.push { cls:= .type "list",data:= .seq (vs.take 40).toArray }).get? b=some o:=fun b o e=>Ax _ _ _ (k1 b o e)
      have I2:Inv B [] [] { s with heap:=H.push { cls:= .type "list",data:= .seq (vs.take 40).toArray },toks:=s.toks+1 }:=I.keep k2 rfl rfl
      refine call_list_seq (s:={ s with heap:=H.push { cls:= .type "list",data:= .seq (vs.take 40).toArray },toks:=s.toks+1 }) H.objs.size (.inl rfl) (Heap.get?_push_size _ rfl) rfl rfl (fun h' c' kk hn'=>?_) (by rw[List.size_toArray]; unfold sizeLine; omega)
      have hv:Ak [] h' ((ns.take 40).map SV.int) (vs.take 40):=by
        have:=(Pg (φ:= []) (h:=h') hI).take 40
        rwa [←List.map_take] at this
      have q:=Fu (X:= []) (xs:=(ns.take 40).map SV.int) (s':={ s with heap:=h',toks:=s.toks+1 }) I2 kk (Nat.le_refl _) ⟨_,hn'⟩ (by rw[List.toList_toArray]; exact hv) (by simp; unfold lim; omega)
      exact q.then (.keep k2)
    refine wpAny_bind (wpAny_mono first (fun v s1 q=>?_) fun _ _ q=>q)
    obtain⟨φ1,G1,I1,r1⟩:=q
    refine wpAny_bind (wpAny_pure (wpAny_bind (wpAny_holding ?_)))
    refine wpAny_mono (Ac (n:=n) (Aw (i:=0) (k:=k2) (pos:=p6)) Ad rfl A E env s1 φ1 _ [] [.int 0] _ O R I1 (F.grow' I G1) rfl pos) (fun vs s2 q=>?_) fun _ _ q=>q
    obtain⟨φ2,G2,I2,r2⟩:=q
    exact wpAny_pure ⟨φ2,G1.trans G2,I2,Ak.cons'.mpr ⟨G2.vrep I1 Bc r1,r2⟩⟩
  refine wpAny_List_spliced (wpAny_mono (key _) (fun us s1 q=>?_) fun _ _ q=>q)
  obtain⟨φ1,G1,I1,r1⟩:=q
  refine⟨by rw[←r1.length]; decide,?_⟩
  obtain⟨φ2,G2,I2,r2⟩:=Hv (X:= []) I1 r1 (by decide) (t:=s1.toks)
  have G3:=G1.trans G2
  exact GA O I2 (F.grow' I G3) r2 ht fun s3 G4 I3 F3 _=>⟨φ2,G3.any.trans G4,I3,F3,rfl⟩
end Mine
namespace Mine
open scoped Classical
open PySem PySem.W PySem.Calls PyProof.Rows
open Sem (wp)
variable {B:Base}{A:Around}{s:Shared}{R:Result→Shared→Prop}
theorem VO (h:ProgOK B){sa:Addr}{vs:List Value}{ns:List Int}{ρ':Rho}{σ':Hp}(hL:B.S.heap.IsList sa vs.toArray)(hI:IntsAre vs ns)(hlen:vs.length≤63)(I:Inv B [] [] s)(Rm:By A 12)
    (hrun:Qc [("tape",.loc 1)] [.list ((ns.take 40).map .int),.list [.loc 0,.int 0]]=some (.ret (.bool true),ρ',σ'))
    (hR:∀φ' s',Inv B φ' σ' s'→R (.ok (.ret (.bool true))) s'):codeAny (model B.prog B.w) A (.call (.ref 469) ⟨[.ref sa], []⟩) R s:=by
  refine Wc (n:=11) (ps:= ["script"]) (xs:= []) (ρ:= []) (f:=469) (BB h rfl (by kernel_rfl) (Fp fun _=>rfl) (by kernel_rfl)) rfl Rm I (fun _ _ e=>nomatch e) fun env h1 tk O Rm' hk hfr I1 F1 hns=>?_
  refine wpAny_execs_cons (wpAny_mono (TN (Jd h (by kernel_rfl)) hL hI hlen O Rm' I1 F1 ⟨_,hns,Uo (by rw[Env.kindOf,O.scope]; kernel_rfl)⟩ (by kernel_rfl) (nok (by kernel_rfl))) (fun fl s2 q=>?_) fun _ _ q=>q)
  obtain⟨φ2,G2,I2,F2,hfl⟩:=q
  cases hfl
  refine(fun hx:EE B 11 _ _ Qc=>wpAny_mono (hx _ _ env s2 φ2 _ _ _ ρ' σ' O Rm' I2 F2 hrun) (fun fl s3 q=>?_) fun _ _ q=>q) ?_
  rotate_left
  · exact(Ah (BG (Br (Ac (BA (LK h (by kernel_rfl)) ((Nz h).up rfl) (Ac Aa Ad)) (Ac (BA (LK h (by kernel_rfl)) ((Nz h).up rfl) (Ac Aa Ad)) Ad))) (nok (by kernel_rfl)))
    (Ah (BG (AR (Gg (Jd h (by kernel_rfl)) (Ar (Ar Aa Aw) Aw)) (Bk (Bm (by kernel_rfl)) (Cw (by kernel_rfl)) (Bo (Ar (Ar Aa Aw) Aw)) ⟨(AQ Aa (Ar (Ar Aa Aw) Aw)),trivial⟩ Aa)) (nok (by kernel_rfl)))
    (Ah (BG (AR (Ar (Ar Aa Aw) Aw) (Ar (Ar Aa Aw) Aw)) (nok (by kernel_rfl)))
    (Ah (Ho (Bt (Ac (BA (PV h (by kernel_rfl)) ((Q7 h).up rfl) (Ac Aa (Ac (AR Aa (Bk (Bm (by kernel_rfl)) (Cw (by kernel_rfl)) (Bo Aa) trivial (OS Aa))) Ad))) (Ac (Bk (Bm (by kernel_rfl)) (Cw (by kernel_rfl)) (Bo Aa) trivial (BA (KF h (by kernel_rfl)) ((LO h).up rfl) (Ac (Ar Aa Aw) Ad))) Ad))) (nok (by kernel_rfl)) (nok (by kernel_rfl)) (by decide) (hw:=Fs fun _=>by kernel_rfl))
    (Ah (Cq (E2 (Gx (Ha (E1 (BA (Io h (by kernel_rfl)) ((Jg h).up rfl) (Ac Aa (Ac Aa Ad))))) (EO (Ha (E1 (BA (Io h (by kernel_rfl)) ((Jg h).up rfl) (Ac (OS Aa) (Ac Aa Ad)))))))) (An (AF CQ)) BU)
    (An (AF (FS (Bk (Bm (by kernel_rfl)) (Cw (by kernel_rfl)) (Bo Aa) trivial (BA (KF h (by kernel_rfl)) ((LO h).up rfl) (Ac (Ar Aa Aw) Ad))) Aa))))))))
  obtain⟨φ3,G3,I3,F3,v,rfl,r⟩:=q
  simp only[Al] at r
  subst r
  exact hR φ3 s3 I3
end Mine
set_option maxHeartbeats 8000000
namespace Mine
open scoped Classical
open PySem PySem.W PySem.Calls PyProof.Rows
noncomputable def VP:Prop:=∀ns:List Int,∃(ρ':Rho) (σ':Hp),Qc [("tape",.loc 1)] [.list ((ns.take 40).map .int),.list [.loc 0,.int 0]]=some (.ret (.bool true),ρ',σ')
theorem UP (B:Base):Inv B [] [] B.S:=
  ⟨fun _ _ e=>e,rfl,rfl,rfl,List.nodup_nil,fun _ q=>by simp[own] at q,fun _ q=>by simp[own] at q,fun i o as e=>by simp at e⟩
theorem LP:∀{vs:List Value} {ns:List Int},IntsAre vs ns→vs.length=ns.length
  | _,_,.nil=>rfl
  | _,_,.cons _ _ r=>by simp[LP r]
theorem law_holds (pl:VP):PySem.Challenge.rw_pq0004_01.Holds:=hd (by
  intro w s0 s1 mg mb G Y fa o pm cd doc dV kV ho hd' hcd hD hmg hg args vals as hpre hlay hrd hwl hlo
  have KX:=kIn_of (K:=KK) (as:=Vj) (e:=Sk) Y
  refine Ground.open G ?_
  intro T B D TE TW
  wrow_args hpre hlay hrd hwl hlo
  all_goals (
    refine enter_call ?_
    refine codeAny_mono ?_ (fun _ _ g=>GoodW.toG g)
    rename_i ns _ _ _ _ _ _ _ sa vs _ hL _ _ _ hI _ hcond _
    have hfa:fa=469:=by
      have e:=mg_of KX (topRead_of T).g (n:=Str.ofString "law") (v:= .ref 469) (by kernel_rfl)
      have e2:mg (Str.ofString "law")=some (.ref fa):=hmg
      rw[e] at e2
      injection e2 with e2
      injection e2 with e2
      exact e2.symm
    subst hfa
    let B0:Base:={ prog:=PySem.Challenge.rw_pq0004_01.row.prog,w:=w,K:=KK w.params,S:=s1,p:=_,loose:=_,mg:=mg,mb:=mb,cls:=DJ,inK:=KX,top:=topRead_of T }
    obtain⟨ρ',σ',hrun⟩:=pl ns
    have hlen:vs.length≤63:=by rw[LP hI]; omega
    refine VO (B:=B0) ⟨rfl,rfl⟩ hL hI hlen (UP B0) ⟨by decide,by decide,rfl⟩ hrun fun φ' s' I=>?_
    refine⟨.inl ⟨.bool true,.bool true, [],rfl,fun _=>rfl,.bool true,(by kernel_rfl),fun _=>⟨List.nodup_nil,fun a ha=>by simp at ha⟩⟩,I.base,I.os,I.gens.trans hg⟩))
end Mine
namespace Mine.P
open scoped Classical
open PySem PySem.W PySem.Calls PyProof.Rows
theorem Ph {σ:Hp}:(∀(k:Nat) (x:SV),x.isKeyD k=true→∀m,k≤m→BV m σ x=some (Do x))∧∀(k:Nat) (xs:List SV),SV.areKeysD k xs=true→∀m,k≤m→Dv m σ xs=some (Fd xs):=
  EN (fun _ _ _ _=>Gr) (fun _ _ _ _=>LY)
    (fun k xs ih m hm=>by
      cases m with
      | zero=>exact absurd hm (Nat.not_succ_le_zero _)
      | succ m=>rw[Vm,ih m (Nat.le_of_succ_le_succ hm)]; rfl)
    (fun _ _ _=>Id) fun _ _ _ ih1 ih2 m hm=>CA (ih1 m hm) (ih2 m hm)
theorem Q8 {σ:Hp}(k m:Nat)(x:SV)(h:x.isKeyD k=true)(hm:k≤m):BV m σ x=some (Do x):=Ph.1 k x h m hm
theorem UQ {σ:Hp}(k m:Nat)(xs:List SV)(h:SV.areKeysD k xs=true)(hm:k≤m):Dv m σ xs=some (Fd xs):=Ph.2 k xs h m hm
theorem Q9 {σ:Hp}{k m:Nat}{x y:SV}(hx:x.isKeyD k=true)(hy:y.isKeyD m=true)(hk:k≤Cs)(hm:m≤Cs):EW σ x y=some (decide (x=y)):=by
  unfold EW
  rw[Q8 k _ x hx hk,Q8 m _ y hy hm, ←N7 k m x y hx hy]; rfl
theorem HY {p q:Prop} [Decidable p] [Decidable q](h:p↔q):decide p=decide q:=decide_eq_decide.mpr h
@[simp] theorem VQ {σ:Hp}{a b:String}:EW σ (.str a) (.str b)=some (decide (a=b)):=
  (Q9 (k:=0) (m:=0) rfl rfl (Nat.zero_le _) (Nat.zero_le _)).trans (congrArg some (HY ⟨SV.str.inj,congrArg _⟩))
theorem Pi {σ:Hp}{j l m:Nat}{xs:List SV}(hl:σ[l]? =some (.list xs))(hx:SV.areKeysD j xs=true)(hj:j≤m):BV (m+1) σ (.loc l)=some (.list (Fd xs)):=by
  show(match σ[l]? with | some (.list xs)=>(Dv m σ xs).map PyData.list | _=>none)=_
  rw[hl]
  exact congrArg (Option.map PyData.list) (UQ j m xs hx hj)
theorem JK {σ:Hp}{k m:Nat}{l r:Nat}{xs ys:List SV}(hl:σ[l]? =some (.list xs))(hr:σ[r]? =some (.list ys))(hx:SV.areKeysD k xs=true)(hy:SV.areKeysD m ys=true)
    (hk:k<Cs) (hm:m<Cs):EW σ (.loc l) (.loc r)=some (decide (xs=ys)):=by
  have e1:=Pi hl hx (m:=11) (Nat.le_of_lt_succ hk)
  have e2:=Pi hr hy (m:=11) (Nat.le_of_lt_succ hm)
  show LX PyData.eqv (BV 12 σ _) (BV 12 σ _)=_
  rw[e1,e2, ←Vs k m xs ys hx hy]; rfl
theorem Ra {x:SV}(h:x.isInt=true):∃i,x= .int i:=⟨_,CR h⟩
theorem TO {xs ys:List SV}(ht:∀x,x∈xs→x.isTree=true)(hp:ys.Perm xs):AS xs=AS ys:=
  O9 (O:=strKind.toKeyOrd) (c:=code) (fun x y hx hy=>Kw (ht x hx) (ht y hy)) (fun x y hx hy e=>QL (ht x hx) (ht y hy) e) hp
theorem VR {a b:Int}:AS [.int a,.int b]=if a<b then [.int a,.int b] else [.int b,.int a]:=by
  show GK (.int a) (GK (.int b) [])=_
  unfold GK
  simp only[GK,HV,decide_eq_true_eq]
theorem MC {x:SV}{xs:List SV}:x∈AS xs↔x∈xs:=(CI xs).mem_iff
theorem R8 {xs:List SV}:(AS xs).length=xs.length:=(CI xs).length_eq
theorem UR {xs:List SV}(h:xs.all SV.isInt=true):(AS xs).Pairwise (fun a b=>∀i j,a= .int i→b= .int j→i≤j):=by
  have:=FC (O:=HU) (c:=Cm) xs fun x y hx hy=>by
    obtain⟨a,rfl⟩:=Ra (List.all_eq_true.mp h x hx)
    obtain⟨b,rfl⟩:=Ra (List.all_eq_true.mp h y hy)
    exact HV a b
  refine this.imp fun {a b} hab i j hi hj=>?_
  subst hi; subst hj
  have:HU.blt (Cm (.int j)) (Cm (.int i))=false:=hab
  have h2:decide (j<i)=false:=this
  simpa using h2
theorem KJ {x:SV}:∀{xs:List SV},x∈Cr xs↔x∈xs
  | []=>by simp[Cr]
  | y::ys=>by
    unfold Cr
    split
    · rename_i h
      rw[KJ,List.mem_cons]
      have:y∈ys:=by simpa using h
      exact⟨.inr,fun q=>by rcases q with rfl | q; exact this; exact q⟩
    · rw[List.mem_cons,List.mem_cons,KJ]
theorem KL:∀{xs:List SV},(Cr xs).length≤xs.length
  | []=>by simp[Cr]
  | y::ys=>by
    unfold Cr
    have:=KL (xs:=ys)
    split <;> simp <;> omega
end Mine.P
namespace Mine.P
open scoped Classical
set_option smartUnfolding false
section
variable {ρ:Rho}{σ:Hp}
@[simp] theorem TP {α:Type}{l:Nat}{F:Nat→List SV→Option α}:Co (.loc l) σ F=match σ[l]? with
    | some (.list xs)=>F l xs
    | _=>none:=rfl
@[simp] theorem US {o:Op}{x y:Int}:MN o (.int x) (.int y) σ=(P7 o x y).map fun z=>(.int z,σ):=by cases o <;> rfl
@[simp] theorem UT {xs ys:List SV}:MN .add (.tup xs) (.tup ys) σ=if xs.length+ys.length<lim then some (.tup (xs++ys),σ) else none:=rfl
@[simp] theorem UU {l r:Nat}:MN .add (.loc l) (.loc r) σ=match σ[l]?,σ[r]? with
    | some (.list xs),some (.list ys)=>if xs.length+ys.length<lim then some (.loc σ.length,σ ++ [.list (xs++ys)]) else none
    | _,_=>none:=rfl
@[simp] theorem TQ {xs:List SV}{i:Int}:IT (.tup xs) (.int i) σ=if i<1000 then(idx? xs i).map fun v=>(v,σ) else none:=rfl
@[simp] theorem NA {l:Nat}{i:SV}:IT (.loc l) i σ=match σ[l]? with
    | some (.list xs)=>match i with
      | .int i=>(idx? xs i).map fun v=>(v,σ)
      | _=>none
    | some (.dict kvs _)=>if Bz i kvs then(kvs.lookup i).map fun v=>(v,σ) else none
    | _=>none:=by cases i <;> rfl
@[simp] theorem WJ {xs:List SV}{i:Nat}:idx? xs (i:Int)=xs[i]?:=by simp[idx?]
@[simp] theorem TR {c name:String}{l:Nat}:MQ c name (.loc l) σ=match σ[l]? with
    | some (.inst c' fs)=>c'=c&&(fs.lookup name).isNone
    | _=>false:=rfl
@[simp ↓] theorem LQ {l:Nat}:Ee (.loc l) σ=match σ[l]? with
    | some (.list xs)=>some xs
    | some (.dict kvs _)=>some (kvs.map (·.1))
    | _=>none:=rfl
@[simp ↓] theorem Pk {l:Nat}:P9 (.loc l) σ=match σ[l]? with
    | some (.list xs)=>some (xs.length:Int)
    | some (.dict kvs _)=>some (kvs.length:Int)
    | _=>none:=rfl
@[simp ↓] theorem NB {l:Nat}:IU (.loc l) σ=match σ[l]? with
    | some (.list _)=>true
    | _=>false:=rfl
@[simp] theorem bindTgt_pair {x y:String}{v:SV}:Ct (.pair x y) v ρ σ=(HL v σ).map fun p=>Rho.put (Rho.put ρ x p.1) y p.2:=rfl
theorem Hy {l:Nat}{a b:SV}(h:σ[l]? =some (.list [a,b])):HL (.loc l) σ=some (a,b):=by
  unfold HL Co; dsimp only; rw[h]; rfl
@[simp ↓] theorem Pl {t:Tv}:Hu [t] ρ σ=t ρ σ:=by
  unfold Hu
  rcases t ρ σ with _ | ⟨b,σ'⟩
  · rfl
  · cases b <;> rfl
end
set_option smartUnfolding true
theorem BW {ρ:Rho}{x:String}{v:SV}{xs:List String}(h:ρ.lookup x=some v):Da (x::xs) ρ=(x,v)::Da xs ρ:=by
  simp[Da,h]
theorem UV {tgt:Tgt}{chk:Option (Nat×SObj)}{body:Ex}{ρ:Rho}{σ:Hp}(h:Cj chk σ=true):FX tgt chk body [] ρ σ=some (.next,ρ,σ):=if_pos h
theorem TS {tgt:Tgt}{chk:Option (Nat×SObj)}{body:Ex}{ρ ρ1:Rho}{σ:Hp}{x:SV}{xs:List SV}{r:Flw×Rho×Hp}(h:Cj chk σ=true)(h1:Ct tgt x ρ σ=some ρ1)(h2:AC body (FX tgt chk body xs) ρ1 σ=some r):
    FX tgt chk body (x::xs) ρ σ=some r:=by
  show(if Cj chk σ=true then BP (Ct tgt x ρ σ) _ else none)=_
  rw[if_pos h,h1]; exact h2
theorem KM {a b:Ex}{ρ ρ1:Rho}{σ σ1:Hp}{r:Option (Flw×Rho×Hp)}(ha:a ρ σ=some (.next,ρ1,σ1))(hb:b ρ1 σ1=r):AC a b ρ σ=r:=by
  unfold AC; rw[ha]; exact hb
theorem Gl {tgt:Tgt}{chk:Option (Nat×SObj)}{ts:List Tv}{elt:Ev}{ρ:Rho}{σ:Hp}(h:Cj chk σ=true):Cu tgt chk ts elt ρ [] σ=some ([],σ):=if_pos h
theorem Dz {tgt:Tgt}{chk:Option (Nat×SObj)}{ts:List Tv}{elt:Ev}{ρ ρ':Rho}{σ σ1:Hp}{x:SV}{xs:List SV}{b:Bool}{r:List SV×Hp}(h:Cj chk σ=true)(h1:Ct tgt x ρ σ=some ρ')(h2:Hu ts ρ' σ=some (b,σ1))
    (h3:cond b (bnd (elt ρ' σ1) fun v σ₂=>bnd (Cu tgt chk ts elt ρ xs σ₂) fun vs σ3=>some (v::vs,σ3)) (Cu tgt chk ts elt ρ xs σ1)=some r):Cu tgt chk ts elt ρ (x::xs) σ=some r:=by
  show(if Cj chk σ=true then BP (Ct tgt x ρ σ) _ else none)=_
  rw[if_pos h,h1]
  show bnd (Hu ts ρ' σ) _=_
  rw[h2]; exact h3
theorem Fi {tgt:Tgt}{chk:Option (Nat×SObj)}{ts:List Tv}{elt:Ev}{ρ ρ':Rho}{σ1 σ₂ σ3:Hp}{xs vs:List SV}{v:SV}(h:elt ρ' σ1=some (v,σ₂))(h2:Cu tgt chk ts elt ρ xs σ₂=some (vs,σ3)):
    (bnd (elt ρ' σ1) fun v σ₂=>bnd (Cu tgt chk ts elt ρ xs σ₂) fun vs σ3=>some (v::vs,σ3))=some (v::vs,σ3):=by
  rw[h]; show bnd (Cu tgt chk ts elt ρ xs σ₂) _=_; rw[h2]; rfl
theorem NC {t:Tv}{body:Ex}{f:Nat}{ρ:Rho}{σ σ1:Hp}{b:Bool}{r:Flw×Rho×Hp}(h:t ρ σ=some (b,σ1))(h2:cond b (AC body (HC t body f) ρ σ1) (some (.next,ρ,σ1))=some r):HC t body (f+1) ρ σ=some r:=by
  show bnd (t ρ σ) _=_
  rw[h]; exact h2
theorem CC {tgt:Tgt}{chk:Option (Nat×SObj)}{body:Ex}(I:List SV→Rho→Hp→Prop)
    (hc:∀xs ρ σ,I xs ρ σ→Cj chk σ=true)
    (step:∀x xs ρ σ,I (x::xs) ρ σ→∃ρ1 ρ2 σ₂,Ct tgt x ρ σ=some ρ1∧body ρ1 σ=some (.next,ρ2,σ₂)∧I xs ρ2 σ₂) (xs:List SV):
    ∀ρ σ,I xs ρ σ→∃ρ' σ',FX tgt chk body xs ρ σ=some (.next,ρ',σ')∧I [] ρ' σ':=by
  induction xs with
  | nil=>exact fun ρ σ h=>⟨ρ,σ,UV (hc _ _ _ h),h⟩
  | cons x xs ih=>
    intro ρ σ h
    obtain⟨ρ1,ρ2,σ₂,h1,h2,h3⟩:=step x xs ρ σ h
    obtain⟨ρ',σ',h4,h5⟩:=ih ρ2 σ₂ h3
    exact⟨ρ',σ',TS (hc _ _ _ h) h1 (KM h2 h4),h5⟩
theorem GV {tgt:Tgt}{chk:Option (Nat×SObj)}{ts:List Tv}{elt:Ev}{ρ:Rho}(I:List SV→List SV→Hp→Prop)
    (hc:∀xs acc σ,I xs acc σ→Cj chk σ=true)
    (step:∀x xs acc σ,I (x::xs) acc σ→∃ρ' b σ1,Ct tgt x ρ σ=some ρ'∧Hu ts ρ' σ=some (b,σ1)∧
      (b=true→∃v σ₂,elt ρ' σ1=some (v,σ₂)∧I xs (acc ++ [v]) σ₂)∧(b=false→I xs acc σ1)) (xs:List SV):
    ∀acc σ,I xs acc σ→∃vs σ',Cu tgt chk ts elt ρ xs σ=some (vs,σ')∧I [] (acc++vs) σ':=by
  induction xs with
  | nil=>exact fun acc σ h=>⟨[],σ,Gl (hc _ _ _ h),(List.append_nil acc).symm▸h⟩
  | cons x xs ih=>
    intro acc σ h
    obtain⟨ρ',b,σ1,h1,h2,h3,h4⟩:=step x xs acc σ h
    cases b with
    | true=>
      obtain⟨v,σ₂,h5,h6⟩:=h3 rfl
      obtain⟨vs,σ',h7,h8⟩:=ih _ σ₂ h6
      exact⟨v::vs,σ',Dz (hc _ _ _ h) h1 h2 (Fi h5 h7),List.append_assoc acc [v] vs▸h8⟩
    | false=>
      obtain⟨vs,σ',h7,h8⟩:=ih _ σ1 (h4 rfl)
      exact⟨vs,σ',Dz (hc _ _ _ h) h1 h2 h7,h8⟩
theorem Rb {t:Tv}{body:Ex}(I:Nat→Rho→Hp→Prop)(Q:Rho→Hp→Prop)
    (step:∀m ρ σ,I m ρ σ→∃b σ1,t ρ σ=some (b,σ1)∧(b=false→Q ρ σ1)∧
      (b=true→∃ρ2 σ₂ m',body ρ σ1=some (.next,ρ2,σ₂)∧m'<m∧I m' ρ2 σ₂)) (f:Nat):
    ∀m ρ σ,m<f→I m ρ σ→∃ρ' σ',HC t body f ρ σ=some (.next,ρ',σ')∧Q ρ' σ':=by
  induction f with
  | zero=>exact fun m _ _ hm _=>absurd hm (Nat.not_lt_zero m)
  | succ f ih=>
    intro m ρ σ hm h
    obtain⟨b,σ1,h1,h2,h3⟩:=step m ρ σ h
    cases b with
    | false=>exact⟨ρ,σ1,NC h1 rfl,h2 rfl⟩
    | true=>
      obtain⟨ρ2,σ₂,m',h4,h5,h6⟩:=h3 rfl
      obtain⟨ρ',σ',h7,h8⟩:=ih m' ρ2 σ₂ (Nat.lt_of_lt_of_le h5 (Nat.le_of_lt_succ hm)) h6
      exact⟨ρ',σ',NC h1 (KM h4 h7),h8⟩
theorem GW {t:Tv}{body:Ex}(I:Nat→Rho→Hp→Prop)(Q:Rho→Hp→Prop)
    (step:∀m ρ σ,I m ρ σ→∃b σ1,t ρ σ=some (b,σ1)∧(b=false→Q ρ σ1)∧
      (b=true→∃ρ2 σ₂ m',body ρ σ1=some (.next,ρ2,σ₂)∧m'<m∧I m' ρ2 σ₂))
    {m ρ σ} (hm:m<FR) (h:I m ρ σ):∃ρ' σ',HM t body ρ σ=some (.next,ρ',σ')∧Q ρ' σ':=
  Rb I Q step FR m ρ σ hm h
end Mine.P
namespace Mine.P
open scoped Classical
section
variable {ρ ρ1 ρ2:Rho}{σ σ1 σ2 σ3:Hp}
theorem Az {α β γ:Type}{m:Option (α×β)}{a:α}{b:β}{F:α→β→Option γ}{r:Option γ}(h:m=some (a,b))(k:F a b=r):bnd m F=r:=(congrArg (fun m=>bnd m F) h).trans k
theorem EQ {α γ:Type}{m:Option α}{a:α}{F:α→Option γ}{r:Option γ}(h:m=some a)(k:F a=r):BP m F=r:=(congrArg (fun m=>BP m F) h).trans k
theorem Cx {α γ:Type}{m:Option α}{a:α}{F:α→γ}(h:m=some a):m.map F=some (F a):=congrArg (fun m=>m.map F) h
theorem Dh {α:Type}{l:Nat}{xs:List SV}{F:Nat→List SV→Option α}{r:Option α}(h:σ[l]? =some (.list xs))(k:F l xs=r):Co (.loc l) σ F=r:=by rw[TP,h]; exact k
theorem KN {α:Type}{l n:Nat}{xs:List (SV×SV)}{F:Nat→List (SV×SV)→Nat→Option α}{r:Option α}(h:σ[l]? =some (.dict xs n))(k:F l xs n=r):J9 (.loc l) σ F=r:=by
  show(match σ[l]? with | some (.dict kvs n)=>F l kvs n | _=>none)=r
  rw[h]; exact k
theorem Pm {α:Type}{l:Nat}{c:String}{xs:List (String×SV)}{F:Nat→String→List (String×SV)→Option α}{r:Option α}(h:σ[l]? =some (.inst c xs))(k:F l c xs=r):ML (.loc l) σ F=r:=by
  show(match σ[l]? with | some (.inst c kvs)=>F l c kvs | _=>none)=r
  rw[h]; exact k
theorem Ao {x:String}{v:SV}(h:ρ.lookup x=some v):Ab x ρ σ=some (v,σ):=Cx h
theorem Jh {c f:String}{e:Ev}{l:Nat}{fs:List (String×SV)}{v:SV}(he:e ρ σ=some (.loc l,σ1))(ho:σ1[l]? =some (.inst c fs))(hf:fs.lookup f=some v):Aq c e f ρ σ=some (v,σ1):=
  Az he (Pm ho ((if_pos rfl).trans (Cx hf)))
theorem Bd {c f x:String}{l:Nat}{fs:List (String×SV)}{v:SV}(hx:ρ.lookup x=some (.loc l))(ho:σ[l]? =some (.inst c fs))(hf:fs.lookup f=some v):Aq c (Ab x) f ρ σ=some (v,σ):=Jh (Ao hx) ho hf
theorem AA {e:Ev}{es:List Ev}{v:SV}{vs:List SV}(h:e ρ σ=some (v,σ1))(hs:evs es ρ σ1=some (vs,σ2)):evs (e::es) ρ σ=some (v::vs,σ2):=Az h (Az hs rfl)
theorem EV {es:List Ev}{vs:List SV}(hs:evs es ρ σ=some (vs,σ1)):Bw es ρ σ=some (.tup vs,σ1):=Az hs rfl
theorem Ji {es:List Ev}{vs:List SV}(hs:evs es ρ σ=some (vs,σ1)):Cc es ρ σ=some (.loc σ1.length,σ1 ++ [.list vs]):=Az hs rfl
theorem Di {f:Fn}{es:List Ev}{vs:List SV}{r:SV×Hp}(hs:evs es ρ σ=some (vs,σ1))(hf:f vs σ1=some r):Bj f es ρ σ=some r:=Az hs hf
theorem UW {c name:String}{l:Nat}{fs:List (String×SV)}(hi:σ[l]? =some (.inst c fs))(hn:fs.lookup name=none):MQ c name (.loc l) σ=true:=by rw[TR,hi]; simp[hn]
theorem AG {c name:String}{f:Fn}{o:Ev}{es:List Ev}{l:Nat}{fs:List (String×SV)}{vs:List SV}{r:SV×Hp}(ho:o ρ σ=some (.loc l,σ1))(hi:σ1[l]? =some (.inst c fs))(hn:fs.lookup name=none)
    (hs:evs es ρ σ1=some (vs,σ2)) (hf:f (.loc l::vs) σ2=some r):AB c name f o es ρ σ=some r:=Az ho ((if_pos (UW hi hn)).trans (Az hs hf))
theorem Lg {o:Cmp}{a b:Ev}{x y:SV}{r:Bool}(ha:a ρ σ=some (x,σ1))(hb:b ρ σ1=some (y,σ2))(hc:Cp o x y σ2=some r):AM o a b ρ σ=some (.bool r,σ2):=Az ha (Az hb (Cx hc))
theorem Gm {e:Ev}{b:Bool}(h:e ρ σ=some (.bool b,σ1)):AJ e ρ σ=some (b,σ1):=Az h rfl
theorem Bq {o:Cmp}{a b:Ev}{x y:SV}{r:Bool}(ha:a ρ σ=some (x,σ1))(hb:b ρ σ1=some (y,σ2))(hc:Cp o x y σ2=some r):AJ (AM o a b) ρ σ=some (r,σ2):=Gm (Lg ha hb hc)
theorem Iq {a b:Int}(h:a=b):Cp .eq (.int a) (.int b) σ=some true:=h▸congrArg some (beq_self_eq_true a)
theorem JL {a b:Int}(h:¬ a=b):Cp .eq (.int a) (.int b) σ=some false:=congrArg some (beq_eq_false_iff_ne.mpr h)
theorem Qd {a b:Int}(h:¬ a=b):Cp .ne (.int a) (.int b) σ=some true:=Cx (F:=(!·)) (JL (σ:=σ) h)
theorem Ir {a b:Int}(h:a=b):Cp .ne (.int a) (.int b) σ=some false:=Cx (F:=(!·)) (Iq (σ:=σ) h)
theorem Bf {a b:Ex}{r:Flw×Rho×Hp}(ha:a ρ σ=some (.next,ρ1,σ1))(hb:b ρ1 σ1=some r):AC a b ρ σ=some r:=by unfold AC; rw[ha]; exact hb
theorem Jj {a b:Ex}{v:SV}(ha:a ρ σ=some (.ret v,ρ1,σ1)):AC a b ρ σ=some (.ret v,ρ1,σ1):=by unfold AC; rw[ha]
theorem Gn {x:String}{e:Ev}{v:SV}(h:e ρ σ=some (v,σ1)):Bi (.name x) e ρ σ=some (.next,ρ.put x v,σ1):=Az h rfl
theorem CT {x:String}{e:Ev}{v:SV}{b:Ex}{r:Flw×Rho×Hp}(h:e ρ σ=some (v,σ1))(hb:b (ρ.put x v) σ1=some r):AC (Bi (.name x) e) b ρ σ=some r:=Bf (Gn h) hb
theorem FG {t:Tv}{a b:Ex}{r:Option (Flw×Rho×Hp)}(ht:t ρ σ=some (true,σ1))(ha:a ρ σ1=r):xIf t a b ρ σ=r:=by unfold xIf; exact Az ht ha
theorem DY {t:Tv}{a b:Ex}{r:Option (Flw×Rho×Hp)}(ht:t ρ σ=some (false,σ1))(hb:b ρ σ1=r):xIf t a b ρ σ=r:=by unfold xIf; exact Az ht hb
theorem BC {e:Ev}{v:SV}(h:e ρ σ=some (v,σ1)):BH e ρ σ=some (.ret v,ρ,σ1):=by unfold BH; exact Az h rfl
theorem Ek {e:Ev}{v:SV}(h:e ρ σ=some (v,σ1))(s:v.isScal=true):Bl e ρ σ=some (.next,ρ,σ1):=Az h (if_pos s)
theorem Dk {e:Ev}{v:SV}{b:Ex}{r:Flw×Rho×Hp}(h:e ρ σ=some (v,σ1))(s:v.isScal=true)(hb:b ρ σ1=some r):AC (Bl e) b ρ σ=some r:=Bf (Ek h s) hb
theorem FH {o:Op}{a b:Ev}{x y z:Int}(ha:a ρ σ=some (.int x,σ1))(hb:b ρ σ1=some (.int y,σ2))(h:P7 o x y=some z):eOp o a b ρ σ=some (.int z,σ2):=Az ha (Az hb (by rw[US,h]; rfl))
theorem ND {a b:Ev}{xs ys:List SV}(ha:a ρ σ=some (.tup xs,σ1))(hb:b ρ σ1=some (.tup ys,σ2))(h:xs.length+ys.length<lim):eOp .add a b ρ σ=some (.tup (xs++ys),σ2):=Az ha (Az hb (by rw[UT,if_pos h]))
theorem NE {a b:Ev}{l r:Nat}{xs ys:List SV}(ha:a ρ σ=some (.loc l,σ1))(hb:b ρ σ1=some (.loc r,σ2))(hl:σ2[l]? =some (.list xs))(hr:σ2[r]? =some (.list ys))(h:xs.length+ys.length<lim):
    eOp .add a b ρ σ=some (.loc σ2.length,σ2 ++ [.list (xs++ys)]):=Az ha (Az hb (by rw[UU,hl,hr]; exact if_pos h))
theorem Xx {o i:Ev}{x y:SV}{r:Option (SV×Hp)}(ho:o ρ σ=some (x,σ1))(hi:i ρ σ1=some (y,σ2))(h:IT x y σ2=r):Ap o i ρ σ=r:=Az ho (Az hi h)
theorem Dl {o i:Ev}{xs:List SV}{n:Int}{v:SV}(ho:o ρ σ=some (.tup xs,σ1))(hi:i ρ σ1=some (.int n,σ2))(hn:n<1000)(hv:idx? xs n=some v):Ap o i ρ σ=some (v,σ2):=Az ho (Az hi (by rw[TQ,if_pos hn,hv]; rfl))
theorem BN {o i:Ev}{l:Nat}{xs:List SV}{n:Int}{v:SV}(ho:o ρ σ=some (.loc l,σ1))(hi:i ρ σ1=some (.int n,σ2))(hl:σ2[l]? =some (.list xs))(hv:idx? xs n=some v):Ap o i ρ σ=some (v,σ2):=Az ho (Az hi (by rw[NA,hl]; exact Cx hv))
theorem CX {xs:List SV}{n:Nat}{v:SV}(h:xs[n]? =some v):idx? xs (n:Int)=some v:=WJ.trans h
theorem Fj {o i:Ev}{l:Nat}{kvs:List (SV×SV)}{ver:Nat}{k v:SV}(ho:o ρ σ=some (.loc l,σ1))(hi:i ρ σ1=some (k,σ2))(hl:σ2[l]? =some (.dict kvs ver))(hk:Bz k kvs=true)(hv:kvs.lookup k=some v):Ap o i ρ σ=some (v,σ2):=
  Az ho (Az hi (by rw[NA,hl]; exact(if_pos hk).trans (Cx hv)))
theorem HZ {o:Ev}{k:Nat}{xs:List SV}(ho:o ρ σ=some (.tup xs,σ1))(h:k≤xs.length∧xs.length<lim):ET o k ρ σ=some (.tup (xs.drop k),σ1):=Az ho (if_pos h)
theorem Qe {c:String}{f:Fn}{es:List Ev}{vs:List SV}(hs:evs es ρ σ=some (vs,σ1))(hf:f (.loc σ1.length::vs) (σ1 ++ [.inst c []])=some (.none,σ2)):Iy c f es ρ σ=some (.loc σ1.length,σ2):=Az hs (Az hf rfl)
theorem Dt {e:Ev}{l n:Nat}{xs:List SV}(he:e ρ σ=some (.loc l,σ1))(hl:σ1[l]? =some (.list xs))(hn:xs.length=n):CD e ρ σ=some (.int n,σ1):=hn▸Az he (by rw[Pk,hl]; rfl)
theorem FO {e:Ev}{v:SV}{xs:List SV}(he:e ρ σ=some (v,σ1))(hx:Ee v σ1=some xs)(h:EX xs=true):DA e ρ σ=some (.loc σ1.length,σ1 ++ [.list (AS xs)]):=Az he (EQ hx (if_pos h))
theorem Dw {l:Nat}{xs:List SV}(h:σ[l]? =some (.list xs)):Ee (.loc l) σ=some xs:=by rw[LQ,h]
theorem NF {l:Nat}{kvs:List (SV×SV)}{n:Nat}(h:σ[l]? =some (.dict kvs n)):Ee (.loc l) σ=some (kvs.map (·.1)):=by rw[LQ,h]
theorem JM {e:Ev}{v:SV}{xs:List SV}(he:e ρ σ=some (v,σ1))(hx:Ee v σ1=some xs):Gs e ρ σ=some (.loc σ1.length,σ1 ++ [.list xs]):=Az he (EQ hx rfl)
theorem UX {e:Ev}{xs:List SV}(he:e ρ σ=some (.tup xs,σ1)):CL e ρ σ=some (.tup xs,σ1):=Az he rfl
theorem Jk {e:Ev}{l:Nat}{xs:List SV}(he:e ρ σ=some (.loc l,σ1))(hl:σ1[l]? =some (.list xs)):CL e ρ σ=some (.tup xs,σ1):=Az he (Dh hl rfl)
theorem CY {o x:Ev}{l:Nat}{xs ys:List SV}{v:SV}(ho:o ρ σ=some (.loc l,σ1))(h1:σ1[l]? =some (.list ys))(hx:x ρ σ1=some (v,σ2))(h2:σ2[l]? =some (.list xs))(hn:xs.length<lim):
    B6 o x ρ σ=some (.none,σ2.set l (.list (xs ++ [v]))):=
  Az ho ((if_pos (by rw[NB,h1])).trans (Az hx (Dh h2 (if_pos hn))))
theorem Rc {o x:Ev}{l r:Nat}{xs ys zs:List SV}(ho:o ρ σ=some (.loc l,σ1))(h1:σ1[l]? =some (.list ys))(hx:x ρ σ1=some (.loc r,σ2))(h2:σ2[l]? =some (.list xs))(h3:σ2[r]? =some (.list zs))(hn:l≠r∧xs.length+zs.length<lim):
    K9 o x ρ σ=some (.none,σ2.set l (.list (xs++zs))):=
  Az ho ((if_pos (by rw[NB,h1])).trans (Az hx (Dh h2 (Dh h3 (if_pos hn)))))
theorem Wd {o:Ev}{l:Nat}{xs:List SV}{v:SV}(ho:o ρ σ=some (.loc l,σ1))(h1:σ1[l]? =some (.list (xs ++ [v]))):NW o ρ σ=some (v,σ1.set l (.list xs)):=
  Az ho (Dh h1 (EQ (List.getLast?_concat ..) (by rw[List.dropLast_concat])))
theorem Xy {o i:Ev}{l n:Nat}{kvs:List (SV×SV)}{k v:SV}(ho:o ρ σ=some (.loc l,σ1))(h1:∃d m,σ1[l]? =some (.dict d m))(hi:i ρ σ1=some (k,σ2))(h2:σ2[l]? =some (.dict kvs n))(hk:(k.isInt&&(kvs.all fun p=>p.1.isInt))=true)(hv:kvs.lookup k=some v):
    NX o i ρ σ=some (v,σ2.set l (.dict (Ci kvs k) (n+1))):=
  h1.elim fun d h1=>h1.elim fun m h1=>Az ho ((if_pos (show HB (.loc l) σ1=true by show(match σ1[l]? with | some (.dict _ _)=>true | _=>false)=true; rw[h1])).trans (Az hi (KN h2 ((if_pos hk).trans (EQ hv rfl)))))
theorem X6 {e:Ev}{l:Nat}{xs:List SV}{ns:List Int}(he:e ρ σ=some (.loc l,σ1))(hl:σ1[l]? =some (.list xs))(hi:ints? xs=some ns):Vn e ρ σ=some (.int ns.sum,σ1):=Az he (Dh hl (Cx hi))
theorem X7 {e:Ev}{l:Nat}{xs:List SV}{m:Int}(he:e ρ σ=some (.loc l,σ1))(hl:σ1[l]? =some (.list xs))(hi:(ints? xs).bind Qa=some m):Vo e ρ σ=some (.int m,σ1):=Az he (Dh hl (EQ hi rfl))
theorem in_dict {l ver:Nat}{kvs:List (SV×SV)}{x:SV}(hl:σ[l]? =some (.dict kvs ver))(hk:Bz x kvs=true):P8 x (.loc l) σ=some (kvs.lookup x).isSome:=by
  show(match σ[l]? with | some (.list xs)=>C9 σ x xs | some (.dict kvs _)=>if Bz x kvs then some ((kvs.lookup x).isSome) else none | _=>none)=_
  rw[hl]; exact if_pos hk
theorem Xz {l ver:Nat}{kvs:List (SV×SV)}{x:SV}{b:Bool}(hl:σ[l]? =some (.dict kvs ver))(hk:Bz x kvs=true)(hv:(kvs.lookup x).isSome=b):Cp .isin x (.loc l) σ=some b:=hv▸in_dict hl hk
theorem Oz {l ver:Nat}{kvs:List (SV×SV)}{x:SV}{b:Bool}(hl:σ[l]? =some (.dict kvs ver))(hk:Bz x kvs=true)(hv:(kvs.lookup x).isSome=b):Cp .notin x (.loc l) σ=some !b:=hv▸Cx (in_dict hl hk)
theorem XA {l ver:Nat}{kvs:List (SV×SV)}{x:SV}(hl:σ[l]? =some (.dict kvs ver))(hk:Bz x kvs=true)(hv:kvs.lookup x=none):Cp .notin x (.loc l) σ=some true:=Oz hl hk (congrArg Option.isSome hv)
theorem XB {l ver:Nat}{kvs:List (SV×SV)}{x w:SV}(hl:σ[l]? =some (.dict kvs ver))(hk:Bz x kvs=true)(hv:kvs.lookup x=some w):Cp .notin x (.loc l) σ=some false:=Oz hl hk (congrArg Option.isSome hv)
theorem WK {o p:Cmp}{a b c:Ev}{x y z:SV}{r:Bool}(ha:a ρ σ=some (x,σ1))(hb:b ρ σ1=some (y,σ2))(h1:Cp o x y σ2=some true)(hc:c ρ σ2=some (z,σ3))(h2:Cp p y z σ3=some r):Kb o p a b c ρ σ=some (.bool r,σ3):=
  Az ha (Az hb (EQ h1 (Az hc (Cx h2))))
theorem AL {n:Nat}(h:n≤1000):n<lim:=Nat.lt_of_le_of_lt h (by decide)
theorem We {a b:Ev}{r:Option (SV×Hp)}(h:a ρ σ=some (.bool true,σ1))(hb:b ρ σ1=r):Qi a b ρ σ=r:=Az h hb
theorem Lh {t:Tv}(h:t ρ σ=some (true,σ1)):Jq t ρ σ=some (false,σ1):=Cx (F:=fun p:Bool×Hp=>(!p.1,p.2)) h
theorem XC {t:Tv}{b:Bool}(h:t ρ σ=some (b,σ1)):Jq t ρ σ=some (!b,σ1):=Cx h
theorem XD {a b:Tv}{r:Option (Bool×Hp)}(h:a ρ σ=some (true,σ1))(hb:b ρ σ1=r):Qj a b ρ σ=r:=Az h hb
theorem XE {a b:Tv}(h:a ρ σ=some (false,σ1)):Qj a b ρ σ=some (false,σ1):=Az h rfl
theorem X8 {a b:Tv}(h:a ρ σ=some (true,σ1)):tOr a b ρ σ=some (true,σ1):=Az h rfl
theorem Li {a b:Tv}{r:Option (Bool×Hp)}(h:a ρ σ=some (false,σ1))(hb:b ρ σ1=r):tOr a b ρ σ=r:=Az h hb
theorem H5 {t:Tv}{a b:Ev}{r:Option (SV×Hp)}(h:t ρ σ=some (true,σ1))(ha:a ρ σ1=r):eIf t a b ρ σ=r:=Az h ha
theorem NG {t:Tv}{a b:Ev}{r:Option (SV×Hp)}(h:t ρ σ=some (false,σ1))(hb:b ρ σ1=r):eIf t a b ρ σ=r:=Az h hb
theorem Go {x y:String}{e:Ev}{v a b:SV}(h:e ρ σ=some (v,σ1))(hp:HL v σ1=some (a,b)):Bi (.pair x y) e ρ σ=some (.next,(ρ.put x a).put y b,σ1):=Az h (Cx (Cx hp))
theorem NH {c f:String}{o v:Ev}{x:SV}{l:Nat}{fs:List (String×SV)}(hv:v ρ σ=some (x,σ1))(ho:o ρ σ1=some (.loc l,σ2))(hl:σ2[l]? =some (.inst c fs))(hn:fs.length≤100):
    BE c o f v ρ σ=some (.next,ρ,σ2.set l (.inst c (Rho.put fs f x))):=Az hv (Az ho (Cx (F:=fun σ₃=>(Flw.next,ρ,σ₃)) (Pm (F:=fun l c' fs=>if c'=c∧fs.length≤100 then some (σ2.set l (.inst c' (Rho.put fs f x))) else none) hl (if_pos ⟨rfl,hn⟩))))
theorem UY {l:Nat}{n:Int}{x:SV}{xs:List SV}(hl:σ[l]? =some (.list xs))(hn:0≤n∧n.toNat<xs.length):setItem (.loc l) (.int n) x σ=some (σ.set l (.list (xs.set n.toNat x))):=by
  unfold setItem; dsimp only; rw[hl]; exact if_pos hn
theorem UZ {l ver:Nat}{k x:SV}{kvs kvs':List (SV×SV)}(hl:σ[l]? =some (.dict kvs ver))(hd:dictSet k x kvs=some kvs'):setItem (.loc l) k x σ=some (σ.set l (.dict kvs' (ver+1))):=by
  unfold setItem; dsimp only; rw[hl]; exact EQ hd rfl
theorem U2 {o i v:Ev}{x:SV}{l:Nat}{n:Int}{xs:List SV}(hv:v ρ σ=some (x,σ1))(ho:o ρ σ1=some (.loc l,σ2))(hi:i ρ σ2=some (.int n,σ3))(hl:σ3[l]? =some (.list xs))(hn:0≤n∧n.toNat<xs.length):
    CM o i v ρ σ=some (.next,ρ,σ3.set l (.list (xs.set n.toNat x))):=Az hv (Az ho (Az hi (Cx (UY hl hn))))
theorem KO {o i v:Ev}{x k:SV}{l:Nat}{kvs kvs':List (SV×SV)}{ver:Nat}(hv:v ρ σ=some (x,σ1))(ho:o ρ σ1=some (.loc l,σ2))(hi:i ρ σ2=some (k,σ3))(hl:σ3[l]? =some (.dict kvs ver))(hd:dictSet k x kvs=some kvs'):
    CM o i v ρ σ=some (.next,ρ,σ3.set l (.dict kvs' (ver+1))):=Az hv (Az ho (Az hi (Cx (UZ hl hd))))
theorem XF {o k v:Ev}{l ver m:Nat}{d kvs kvs':List (SV×SV)}{y z:SV}{p:SV×Hp}(ho:o ρ σ=some (.loc l,σ1))(h0:σ1[l]? =some (.dict d m))(hk:k ρ σ1=some (y,σ2))(hv:v ρ σ2=some (z,σ3))(ht:y.isTupKey=true)
    (hl:σ3[l]? =some (.dict kvs ver)) (hd:dictSet y z kvs=some kvs') (c:(∃w,kvs.lookup y=some w∧(w,σ3)=p)∨(kvs.lookup y=none∧(z,σ3.set l (.dict kvs' (ver+1)))=p)):GL o k v ρ σ=some p:=by
  refine Az ho ((if_pos (show HB (.loc l) σ1=true by show(match σ1[l]? with | some (.dict _ _)=>true | _=>false)=true; rw[h0])).trans (Az hk (Az hv ((if_pos ht).trans (KN hl (EQ hd ?_))))))
  rcases c with⟨w,e,q⟩ | ⟨e,q⟩
  · rw[e, ←q]
  · rw[e, ←q]
theorem FI {t:Tgt}{s:Src}{body:Ex}{p:List SV×Option (Nat×SObj)}{r:Option (Flw×Rho×Hp)}(hs:s ρ σ=some (p,σ1))(hg:FX t p.2 body p.1 ρ σ1=r):CN t s body ρ σ=r:=by
  unfold CN; exact Az hs hg
theorem Cf {e:Ev}{v:SV}{p:List SV×Option (Nat×SObj)}(he:e ρ σ=some (v,σ1))(hp:MT v σ1=some p):Bn e ρ σ=some (p,σ1):=Az he (Cx hp)
theorem HI {e:Ev}{n:Nat}(he:e ρ σ=some (.int n,σ1))(hn:n<lim):EC e ρ σ=some (((List.range n).map fun(i:Nat)=>SV.int (i:Int),none),σ1):=by
  have c:0≤(n:Int)∧(n:Int)<(lim:Int):=⟨Int.natCast_nonneg n,Int.ofNat_lt.mpr hn⟩
  exact Az he (EQ (a:=(n:Int)) rfl (if_pos c))
theorem DP {xs:List SV}(h:xs.length<lim):MT (.tup xs) σ=some (xs,none):=if_pos h
theorem D7 {l:Nat}{xs:List SV}(h:σ[l]? =some (.list xs)):MT (.loc l) σ=some (xs,some (l,.list xs)):=by
  show(match σ[l]? with | some (.list xs)=>some (xs,some (l,SObj.list xs)) | some (.dict kvs ver)=>some (kvs.map fun p:SV×SV=>p.1,some (l,SObj.dict kvs ver)) | _=>none)=_
  rw[h]
theorem SD {e:Ev}{l ver:Nat}{kvs:List (SV×SV)}(he:e ρ σ=some (.loc l,σ1))(hl:σ1[l]? =some (.dict kvs ver)):FW e ρ σ=some ((kvs.map fun p=>SV.tup [p.1,p.2],some (l,.dict kvs ver)),σ1):=Az he (KN hl rfl)
theorem XG {e:Ev}{l n v:Nat}{kvs:List (SV×SV)}(he:e ρ σ=some (.loc l,σ1))(hl:σ1[l]? =some (.dict kvs v))(hn:kvs.length=n):CD e ρ σ=some (.int n,σ1):=hn▸Az he (by rw[Pk,hl]; rfl)
theorem XH {e:Ev}{l:Nat}{xs:List SV}(he:e ρ σ=some (.loc l,σ1))(hl:σ1[l]? =some (.list xs)):L7 e ρ σ=some (.loc σ1.length,σ1 ++ [.list xs.reverse]):=Az he (Dh hl rfl)
theorem XI {e:Ev}{xs:List SV}(he:e ρ σ=some (.tup xs,σ1))(h:xs.length<lim):L7 e ρ σ=some (.tup xs.reverse,σ1):=Az he (if_pos h)
theorem Rd {l ver:Nat}{kvs:List (SV×SV)}{ks:List SV}(h:σ[l]? =some (.dict kvs ver))(e:kvs.map (·.1)=ks):MT (.loc l) σ=some (ks,some (l,.dict kvs ver)):=by
  show(match σ[l]? with | some (.list xs)=>some (xs,some (l,SObj.list xs)) | some (.dict kvs ver)=>some (kvs.map fun p:SV×SV=>p.1,some (l,SObj.dict kvs ver)) | _=>none)=_
  rw[h, ←e]
theorem MD {e:Ev}{l:Nat}{ps:List SV}{kvs:List (SV×SV)}(he:e ρ σ=some (.loc l,σ1))(hl:σ1[l]? =some (.list ps))(hf:Es ps []=some kvs):EK e ρ σ=some (.loc σ1.length,σ1 ++ [.dict kvs 0]):=Az he (Dh hl (EQ hf rfl))
theorem Cy {caps:List String}{t:Tgt}{s:Src}{ts:List Tv}{elt:Ev}{p:List SV×Option (Nat×SObj)}{vs:List SV}(hs:s ρ σ=some (p,σ1))(hg:Cu t p.2 ts elt (Da caps ρ) p.1 σ1=some (vs,σ2))(hn:vs.length<lim):
    Bb caps t s ts elt ρ σ=some (.loc σ2.length,σ2 ++ [.list vs]):=Az hs (Az hg (if_pos hn))
theorem BF {ps:List String}{body:Ex}{args:List SV}{v:SV}(hl:args.length=ps.length)(hb:body (ps.zip args) σ=some (.ret v,ρ1,σ1)):BR ps body args σ=some (v,σ1):=(if_pos hl).trans (by rw[hb])
theorem GX {ps:List String}{body:Ex}{args:List SV}(hl:args.length=ps.length)(hb:body (ps.zip args) σ=some (.next,ρ1,σ1)):BR ps body args σ=some (.none,σ1):=(if_pos hl).trans (by rw[hb])
theorem Au {x y:String}{v w:SV}(h:ρ.lookup y=some w)(n:y≠x):(ρ.put x v).lookup y=some w:=by rw[AK,if_neg n]; exact h
theorem AP {x:String}{v:SV}:(ρ.put x v).lookup x=some v:=by rw[AK,if_pos rfl]
end
end Mine.P
namespace Mine.P
open scoped Classical
@[simp] theorem Yr {σ t:Hp}{o:SObj}:(σ++o::t)[σ.length]? =some o:=by rw[List.getElem?_append_right (Nat.le_refl _)]; simp
@[simp] theorem WL {σ t:Hp}{a o:SObj}:(σ++a::o::t)[σ.length+1]? =some o:=by rw[List.getElem?_append_right (by omega)]; simp
noncomputable def rng {α:Type}(n:Nat)(f:Nat→α):List α:=(List.range n).map f
@[simp] theorem B8 {α:Type}{n:Nat}{f:Nat→α}:(rng n f).length=n:=by simp[rng]
@[simp] theorem Ym {α:Type}{f:Nat→α}:rng 0 f= []:=rfl
theorem Lj {α:Type}{n:Nat}{f:Nat→α}{i:Nat}:(rng n f)[i]? =if i<n then some (f i) else none:=by
  unfold rng
  by_cases h:i<n
  · simp[h]
  · simp[h]
theorem EH {α:Type}{n:Nat}{f:Nat→α}{i:Nat}(h:i<n):(rng n f)[i]? =some (f i):=by rw[Lj,if_pos h]
theorem ME {α:Type}{n:Nat}{f:Nat→α}:rng (n+1) f=rng n f ++ [f n]:=by simp[rng,List.range_succ]
theorem It {α:Type}{n:Nat}{f g:Nat→α}(h:∀i,i<n→f i=g i):rng n f=rng n g:=by
  unfold rng
  exact List.map_congr_left fun i hi=>h i (List.mem_range.mp hi)
theorem WM {α:Type}{n:Nat}{f:Nat→α}{j:Nat}{v:α}:(rng n f).set j v=rng n fun i=>if i=j then v else f i:=by
  apply List.ext_getElem?
  intro i
  rw[List.getElem?_set,Lj,Lj,B8]
  by_cases h:j=i
  · subst h; by_cases h2:j<n <;> simp[h2]
  · have h':¬ i=j:=fun q=>h q.symm
    simp[h,h']
theorem FP {α:Type}{n:Nat}{f g:Nat→α}{v:α}(h:∀i,i<n→g i=f i)(hv:g n=v):rng n f ++ [v]=rng (n+1) g:=by
  rw[ME,hv,It h]
theorem HJ {α:Type}{n:Nat}{f:Nat→α}{x:α}:x∈rng n f↔∃i,i<n∧f i=x:=by simp[rng]
theorem GG {α β:Type}{n:Nat}{f:Nat→α}{g:α→β}:(rng n f).map g=rng n fun i=>g (f i):=by simp[rng,Function.comp_def]
noncomputable def sm:Nat→(Nat→Nat)→Nat
  | 0,_=>0
  | n+1,f=>sm n f+f n
theorem MF {f g:Nat→Nat}:∀{n:Nat},(∀i,i<n→f i=g i)→sm n f=sm n g
  | 0,_=>rfl
  | n+1,h=>by
    show sm n f+f n=sm n g+g n
    rw[MF fun i hi=>h i (by omega),h n (by omega)]
theorem KP {f g:Nat→Nat}:∀{n j:Nat},j<n→(∀i,i<n→i≠j→f i=g i)→sm n f+g j=sm n g+f j
  | 0,_,hj,_=>absurd hj (Nat.not_lt_zero _)
  | n+1,j,hj,h=>by
    show sm n f+f n+g j=sm n g+g n+f j
    by_cases e:j=n
    · subst e
      rw[MF fun i hi=>h i (by omega) (by omega)]
      omega
    · have:=KP (n:=n) (j:=j) (by omega) fun i hi hne=>h i (by omega) hne
      have e2:=h n (by omega) (fun q=>e q.symm)
      omega
theorem Wf {f:Nat→Nat}:∀{n j:Nat},j<n→f j≤sm n f
  | 0,_,hj=>absurd hj (Nat.not_lt_zero _)
  | n+1,j,hj=>by
    show f j≤sm n f+f n
    by_cases e:j=n
    · subst e; omega
    · have:=Wf (f:=f) (n:=n) (j:=j) (by omega); omega
theorem Re {f:Nat→Nat}:∀{n:Nat},(∀i,i<n→f i≤1)→sm n f≤n
  | 0,_=>Nat.le_refl _
  | n+1,h=>by
    have:=Re (f:=f) (n:=n) fun i hi=>h i (by omega)
    have:=h n (by omega)
    show sm n f+f n≤n+1
    omega
noncomputable def rts (n:Nat)(r:Nat→Nat):Nat:=sm n fun i=>if r i=i then 1 else 0
theorem XJ {n:Nat}{r:Nat→Nat}:rts n r≤n:=Re fun i _=>by split <;> omega
abbrev Nd:=String×List Nat
noncomputable def Aj (ks:List Nat):List SV:=ks.map fun(k:Nat)=>SV.int (k:Int)
@[simp] theorem Bh {ks:List Nat}:(Aj ks).length=ks.length:=by simp[Aj]
@[simp] theorem Yn:Aj []= []:=rfl
@[simp] theorem KQ {k:Nat}{ks:List Nat}:Aj (k::ks)= .int (k:Int)::Aj ks:=rfl
theorem IL {xs ys:List Nat}:Aj (xs++ys)=Aj xs++Aj ys:=by simp[Aj]
theorem Iu {xs:List Nat}{y:Nat}:Aj (xs ++ [y])=Aj xs ++ [.int (y:Int)]:=by simp[Aj]
theorem JN:∀{xs ys:List Nat},Aj xs=Aj ys→xs=ys
  | [], [],_=>rfl
  | [],y::ys,h=>by simp at h
  | x::xs, [],h=>by simp at h
  | x::xs,y::ys,h=>by
    simp only[KQ,List.cons.injEq,SV.int.injEq] at h
    rw[JN h.2,show x=y by omega]
theorem CZ {ks:List Nat}{v:SV}:v∈Aj ks↔∃k,k∈ks∧v= .int (k:Int):=by
  simp only[Aj,List.mem_map]
  exact⟨fun⟨k,h,e⟩=>⟨k,h,e.symm⟩,fun⟨k,h,e⟩=>⟨k,h,e.symm⟩⟩
theorem R9 {α:Type}{f:α→Nat}{xs:List α}:Aj (xs.map f)=xs.map fun x=>SV.int (f x:Int):=by simp[Aj,Function.comp_def]
noncomputable def Cz (x:Nd):SV:= .tup (.str x.1::Aj x.2)
theorem MG {x y:Nd}(h:Cz x=Cz y):x=y:=by
  unfold Cz at h
  simp only[SV.tup.injEq,List.cons.injEq,SV.str.injEq] at h
  exact Prod.ext h.1 (JN h.2)
theorem Hz {n:Nat}:∀{ks:List Nat},SV.areKeysD n (Aj ks)=true
  | []=>by simp[SV.areKeysD]
  | k::ks=>by
    rw[KQ,SV.areKeysD,Hz (ks:=ks)]
    simp[SV.isKeyD]
theorem H7 {x:Nd}:(Cz x).isTupKey=true:=by
  show SV.areKeysD DD _=true
  rw[SV.areKeysD,Hz]
  simp[SV.isKeyD]
theorem IM {ks:List Nat}:(Aj ks).all SV.isInt=true:=by
  rw[List.all_eq_true]
  intro v hv
  obtain⟨k,_,rfl⟩:=CZ.mp hv
  rfl
theorem VS {f:Nat→Int}:∀xs:List Nat,ints? (xs.map fun i=>SV.int (f i))=some (xs.map f)
  | []=>rfl
  | x::xs=>by simp[ints?,VS xs]
theorem OA {k:SV}:([]:List (SV×SV)).lookup k=none:=rfl
theorem Cg {k a b:SV}{es:List (SV×SV)}:((a,b)::es).lookup k=if k=a then some b else es.lookup k:=Gz
theorem El {k v k':SV}:∀{kvs:List (SV×SV)},(AW kvs k v).lookup k'=if k'=k then some v else kvs.lookup k'
  | []=>by rw[AW,Cg]
  | (a,b)::es=>by
    unfold AW
    by_cases h:a=k
    · rw[if_pos h,Cg,Cg]
      subst h
      by_cases h2:k'=a <;> simp[h2]
    · rw[if_neg h,Cg,Cg,El (kvs:=es)]
      by_cases h2:k'=a
      · subst h2; simp[h]
      · simp[h2]
theorem GY {k v:SV}:∀{kvs:List (SV×SV)},kvs.lookup k=none→AW kvs k v=kvs ++ [(k,v)]
  | [],_=>rfl
  | (a,b)::es,h=>by
    rw[Cg] at h
    unfold AW
    by_cases h2:k=a
    · simp[h2] at h
    · rw[if_neg h2] at h
      rw[if_neg fun q=>h2 q.symm,GY h]; rfl
theorem dictPut_length {k v:SV}:∀{kvs:List (SV×SV)},(AW kvs k v).length≤kvs.length+1
  | []=>by simp[AW]
  | (a,b)::es=>by
    unfold AW
    split
    · simp
    · have:=dictPut_length (k:=k) (v:=v) (kvs:=es); simp; omega
theorem Hf {k v w:SV}:∀{kvs:List (SV×SV)},kvs.lookup k=some w→(AW kvs k v).length=kvs.length
  | [],h=>by simp[OA] at h
  | (a,b)::es,h=>by
    rw[Cg] at h
    unfold AW
    split
    · simp
    · rename_i h2
      rw[if_neg fun q=>h2 q.symm] at h
      simp[Hf h]
theorem Fy {k v:SV}{p:SV→Bool}(hk:p k=true):∀{kvs:List (SV×SV)},kvs.all (fun x=>p x.1)=true→(AW kvs k v).all (fun x=>p x.1)=true
  | [],_=>by simp[AW,hk]
  | (a,b)::es,h=>by
    simp only[List.all_cons,Bool.and_eq_true] at h
    unfold AW
    split
    · simp[h]
    · rw[List.all_cons,Fy hk h.2,h.1]; rfl
theorem KR {k v:SV}:∀{kvs:List (SV×SV)} {x:SV},x∈(AW kvs k v).map (·.1)→x=k∨x∈kvs.map (·.1)
  | [],x,h=>by simp[AW] at h; exact .inl h
  | (a,b)::es,x,h=>by
    unfold AW at h
    split at h
    · exact .inr h
    · rw[List.map_cons,List.mem_cons] at h
      rcases h with h | h
      · exact .inr (by simp[h])
      · rcases KR h with h | h
        · exact .inl h
        · exact .inr (by simp only[List.map_cons,List.mem_cons]; exact .inr h)
theorem Hl {k v:SV}:∀{kvs:List (SV×SV)},(kvs.map (·.1)).Nodup→((AW kvs k v).map (·.1)).Nodup
  | [],_=>by simp[AW]
  | (a,b)::es,h=>by
    unfold AW
    split
    · exact h
    · rename_i h2
      rw[List.map_cons,List.nodup_cons] at h ⊢
      refine⟨fun q=>?_,Hl h.2⟩
      rcases KR q with q | q
      · exact h2 q
      · exact h.1 q
theorem Em {k:SV}:∀{kvs:List (SV×SV)},k∉kvs.map (·.1)→kvs.lookup k=none
  | [],_=>rfl
  | (a,b)::es,h=>by
    simp only[List.map_cons,List.mem_cons,not_or] at h
    rw[Cg,if_neg h.1,Em h.2]
theorem GH {k k':SV}:∀{kvs:List (SV×SV)},(kvs.map (·.1)).Nodup→(Ci kvs k).lookup k'=if k'=k then none else kvs.lookup k'
  | [],_=>by simp[Ci,OA]
  | (a,b)::es,h=>by
    rw[List.map_cons,List.nodup_cons] at h
    unfold Ci
    by_cases h2:a=k
    · rw[if_pos h2,Cg]
      subst h2
      by_cases h3:k'=a
      · subst h3; simp[Em h.1]
      · simp[h3]
    · rw[if_neg h2,Cg,Cg,GH h.2]
      by_cases h3:k'=a
      · subst h3; simp[h2]
      · simp[h3]
theorem GZ {k:SV}:∀{kvs:List (SV×SV)},List.Sublist (Ci kvs k) kvs
  | []=>by simp[Ci]
  | (a,b)::es=>by
    unfold Ci
    split
    · exact List.sublist_cons_self _ _
    · exact(GZ (kvs:=es)).cons_cons _
theorem LR {k:SV}{p:SV→Bool}{kvs:List (SV×SV)}(h:kvs.all (fun x=>p x.1)=true):(Ci kvs k).all (fun x=>p x.1)=true:=by
  rw[List.all_eq_true] at h ⊢
  exact fun x hx=>h x (GZ.subset hx)
theorem PZ {k:SV}{kvs:List (SV×SV)}(h:(kvs.map (·.1)).Nodup):((Ci kvs k).map (·.1)).Nodup:=h.sublist (GZ.map _)
theorem dictDel_length {k:SV}{kvs:List (SV×SV)}:(Ci kvs k).length≤kvs.length:=GZ.length_le
theorem NI {n:Nat}{f:Nat→SV}{g:Nat→SV}:∀{j:Nat},j<n→(∀i,i<n→f i=f j→i=j)→(rng n fun i=>(f i,g i)).lookup (f j)=some (g j):=by
  induction n with
  | zero=>intro j h; exact absurd h (Nat.not_lt_zero _)
  | succ n ih=>
    intro j hj hu
    have key:∀(xs ys:List (SV×SV)) (k:SV),(xs++ys).lookup k=(xs.lookup k).or (ys.lookup k):=by
      intro xs
      induction xs with
      | nil=>intro ys k; rfl
      | cons p xs ih=>intro ys k; obtain⟨a,b⟩:=p; rw[List.cons_append,Cg,Cg,ih]; split <;> rfl
    rw[ME,key,Cg]
    by_cases e:j=n
    · subst e
      have:(rng j fun i=>(f i,g i)).lookup (f j)=none:=by
        apply Em
        intro q
        rw[GG,HJ] at q
        obtain⟨i,hi,e⟩:=q
        have:=hu i (by omega) e
        omega
      simp[this]
    · rw[ih (by omega) fun i hi=>hu i (by omega)]
      rfl
theorem NJ {n:Nat}{f:Nat→SV}{g:Nat→SV}{k:SV}(h:∀i,i<n→f i≠k):(rng n fun i=>(f i,g i)).lookup k=none:=by
  apply Em
  intro q
  rw[GG,HJ] at q
  obtain⟨i,hi,e⟩:=q
  exact h i hi e
theorem D8 {k:SV}{kvs:List (SV×SV)}(hk:k.isTupKey=true)(h:kvs.all (fun x=>x.1.isTupKey)=true):Bz k kvs=true:=by
  unfold Bz; rw[hk,h]; simp
theorem C7 {k:SV}{kvs:List (SV×SV)}(hk:k.isInt=true)(h:kvs.all (fun x=>x.1.isInt)=true):Bz k kvs=true:=by
  unfold Bz; rw[hk,h]; simp
theorem Ez {k v:SV}{kvs:List (SV×SV)}(h:Bz k kvs=true)(hl:kvs.length<lim):dictSet k v kvs=some (AW kvs k v):=by
  unfold dictSet; simp[h,hl]
theorem Iv {a b:Bool}(h:(a&&b)=true):a=true∧b=true:=(Bool.and_eq_true_iff).mp h
structure AH where
  n:Nat
  nd:Nat→Nd
  tm:Nat→SV
  r:Nat→Nat
  A:Nat→List Nat
  K:Nd→Option Nat
  kn:Nat
  wt:List Nat
  ed:List SV
structure Lc where
  lo:Nat→Nat
  al:Nat→Nat
structure HeapAt (σ:Hp) (h:Nat) (H:AH) (L:Lc):Prop where
  inst:σ[h]? =some (.inst "Heap" [("bank",.loc (h+1)),("unions",.loc (h+6)),("edges",.loc (h+10)),("forest",.loc (h+11)),("known",.loc (h+12)),("above",.loc (h+13)),("waiting",.loc (h+14)),("backs",.int 0)])
  bank:σ[h+1]? =some (.inst "Bank" [("nodes",.loc (h+2)),("numbers",.loc (h+3)),("weights",.loc (h+4)),("depths",.loc (h+5))])
  nodes:σ[h+2]? =some (.list (rng H.n fun i=>Cz (H.nd i)))
  numbers:∃ver,σ[h+3]? =some (.dict (rng H.n fun i=>(Cz (H.nd i),.int (i:Int))) ver)
  weights:∃ws:Nat→Int,σ[h+4]? =some (.list (rng H.n fun i=> .int (ws i)))
  depths:∃ws:Nat→Int,σ[h+5]? =some (.list (rng H.n fun i=> .int (ws i)))
  unions:σ[h+6]? =some (.inst "Unions" [("above",.loc (h+7)),("lots",.loc (h+8)),("merged",.loc (h+9))])
  par:∃p:Nat→Nat,σ[h+7]? =some (.list (rng H.n fun i=> .int (p i:Int)))∧∀i,i<H.n→p i≤i∧H.r (p i)=H.r i∧(p i=i→H.r i=i)
  lots:σ[h+8]? =some (.list (rng H.n fun i=> .loc (L.lo i)))
  lot:∀i,i<H.n→∃xs:List Nat,σ[L.lo i]? =some (.list (Aj xs))∧(H.r i=i→xs.Nodup∧∀x,x∈xs↔x<H.n∧H.r x=i)
  merged:∃ms,σ[h+9]? =some (.list ms)∧ms.length≤H.ed.length
  edges:σ[h+10]? =some (.list H.ed)
  forest:∃fs,σ[h+11]? =some (.list fs)∧fs.length≤H.ed.length
  known:∃kvs ver,σ[h+12]? =some (.dict kvs ver)∧kvs.all (fun x=>x.1.isTupKey)=true∧kvs.length≤H.kn∧∀x,kvs.lookup (Cz x)=(H.K x).map fun(m:Nat)=>SV.int (m:Int)
  above:∃kvs ver,σ[h+13]? =some (.dict kvs ver)∧kvs.all (fun x=>x.1.isInt)=true∧(kvs.map (·.1)).Nodup∧kvs.length≤H.n∧∀c:Nat,kvs.lookup (.int (c:Int))=if c<H.n∧H.r c=c then some (.loc (L.al c)) else none
  abv:∀c,c<H.n→H.r c=c→σ[L.al c]? =some (.list (Aj (H.A c)))
  waiting:σ[h+14]? =some (.list (Aj H.wt))
  lrange:∀i,i<H.n→h+15≤L.lo i
  arange:∀c,c<H.n→H.r c=c→h+15≤L.al c
  linj:∀i j,i<H.n→j<H.n→L.lo i=L.lo j→i=j
  ainj:∀c d,c<H.n→d<H.n→H.r c=c→H.r d=d→L.al c=L.al d→c=d
  la:∀i c,i<H.n→c<H.n→H.r c=c→L.lo i≠L.al c
noncomputable def BJ (h:Nat)(H:AH)(L:Lc)(l:Nat):Prop:=(h≤l∧l≤h+14)∨(∃i,i<H.n∧l=L.lo i)∨(∃c,c<H.n∧H.r c=c∧l=L.al c)
theorem AN {σ:Hp}{l:Nat}{o:SObj}(h:σ[l]? =some o):l<σ.length:=(List.getElem?_eq_some_iff.mp h).1
theorem Ae {σ t:Hp}{l:Nat}{o:SObj}(h:σ[l]? =some o):(σ++t)[l]? =some o:=by rw[List.getElem?_append_left (AN h)]; exact h
theorem Fk {σ:Hp}{l j:Nat}{o:SObj}(h:l≠j):(σ.set l o)[j]? =σ[j]?:=List.getElem?_set_ne h
theorem AD {σ:Hp}{l:Nat}{o o':SObj}(h:σ[l]? =some o'):(σ.set l o)[l]? =some o:=List.getElem?_set_self (AN h)
theorem sn {σ:Hp}{l j:Nat}{o x:SObj}(h:σ[l]? =some o)(n:j≠l):(σ.set j x)[l]? =some o:=(Fk n).trans h
theorem hne {h m n:Nat}(e:Nat.beq m n=false):h+m≠h+n:=fun q=>Nat.ne_of_beq_eq_false e (Nat.add_left_cancel q)
theorem VT {h n:Nat}(e:Nat.beq 0 n=false):h≠h+n:=hne (m:=0) e
structure Kp (D:Nat→Prop) (σ σ':Hp):Prop where
  len:σ.length≤σ'.length
  keep:∀l,l<σ.length→¬ D l→σ'[l]? =σ[l]?
theorem Kp.refl {D:Nat→Prop}{σ:Hp}:Kp D σ σ:=⟨Nat.le_refl _,fun _ _ _=>rfl⟩
theorem Kp.set {D:Nat→Prop}{σ τ:Hp}{j:Nat}{x:SObj}(K:Kp D σ τ)(d:D j):Kp D σ (τ.set j x):=⟨by rw[List.length_set]; exact K.len,fun l hl q=>(Fk (l:=j) (j:=l) fun e=>q (e▸d)).trans (K.keep l hl q)⟩
theorem Kp.app {D:Nat→Prop}{σ τ t:Hp}(K:Kp D σ τ):Kp D σ (τ++t):=⟨by rw[List.length_append]; exact Nat.le_trans K.len (Nat.le_add_right ..),fun l hl q=>(List.getElem?_append_left (Nat.lt_of_lt_of_le hl K.len)).trans (K.keep l hl q)⟩
theorem Kp.trans {D:Nat→Prop}{σ τ υ:Hp}(K:Kp D σ τ)(M:Kp D τ υ):Kp D σ υ:=⟨Nat.le_trans K.len M.len,fun l hl q=>(M.keep l (Nat.lt_of_lt_of_le hl K.len) q).trans (K.keep l hl q)⟩
theorem Kp.get {D:Nat→Prop}{σ τ:Hp}{l:Nat}{o:SObj}(K:Kp D σ τ)(e:σ[l]? =some o)(n:¬ D l):τ[l]? =some o:=(K.keep l (AN e) n).trans e
theorem Kp.mono {D E:Nat→Prop}{σ τ:Hp}(K:Kp D σ τ)(h:∀l,D l→E l):Kp E σ τ:=⟨K.len,fun l hl q=>K.keep l hl fun d=>q (h l d)⟩
noncomputable def Ch (h:Nat)(ms:List Nat)(x l:Nat):Prop:=l=x∨∃m,ms.elem m=true∧l=h+m
noncomputable def Gp (ms:List Nat)(m:Nat):Bool:=Nat.blt m 15 && !(ms.elem m)
theorem Cn {h m l:Nat}(b:h+15≤l)(e:Nat.blt m 15=true):h+m≠l:=Nat.ne_of_lt (Nat.lt_of_lt_of_le (Nat.add_lt_add_left (Nat.le_of_ble_eq_true e) h) b)
theorem JO {h x m:Nat}{ms:List Nat}(e:ms.elem m=true):Ch h ms x (h+m):= .inr ⟨m,e,rfl⟩
theorem Rf {h x m:Nat}{ms:List Nat}(hx:h+15≤x)(e:Gp ms m=true):¬ Ch h ms x (h+m):=by
  have e:=Iv e
  intro q
  rcases q with q | ⟨k,q1,q2⟩
  · exact Cn hx e.1 q
  · have:=Nat.add_left_cancel q2
    subst this
    rw[q1] at e; exact nomatch e.2
theorem Lk {h x l:Nat}{ms:List Nat}(e:ms.all (Nat.blt · 15)=true)(hl:h+15≤l)(n:l≠x):¬ Ch h ms x l:=by
  intro q
  rcases q with q | ⟨k,q1,q2⟩
  · exact n q
  · exact Cn hl (List.all_eq_true.mp e k (List.mem_of_elem_eq_true q1)) q2.symm
theorem SE {h x:Nat}{ms ns:List Nat}(e:ms.all (ns.elem ·)=true)(l:Nat)(c:Ch h ms x l):Ch h ns x l:=by
  rcases c with q | ⟨k,q1,q2⟩
  · exact .inl q
  · exact .inr ⟨k,List.all_eq_true.mp e k (List.mem_of_elem_eq_true q1),q2⟩
theorem AE {σ:Hp}{o:SObj}:(σ ++ [o])[σ.length]? =some o:=by simp
variable {σ σ':Hp}{h:Nat}{H:AH}{L:Lc}
theorem HeapAt.frame (A:HeapAt σ h H L)(he:∀l,BJ h H L l→l<σ.length→σ'[l]? =σ[l]?):HeapAt σ' h H L:=by
  have own:∀k,k≤14→BJ h H L (h+k):=fun k hk=> .inl (by omega)
  have t:∀{l o},BJ h H L l→σ[l]? =some o→σ'[l]? =some o:=fun hl e=>(he _ hl (AN e)).trans e
  refine⟨t (own 0 (by omega)) A.inst,t (own 1 (by omega)) A.bank,t (own 2 (by omega)) A.nodes,?_,?_,?_,t (own 6 (by omega)) A.unions,?_,t (own 8 (by omega)) A.lots,?_,?_,t (own 10 (by omega)) A.edges,?_,?_,?_,?_,t (own 14 (by omega)) A.waiting,A.lrange,A.arange,A.linj,A.ainj,A.la⟩
  · obtain⟨v,e⟩:=A.numbers; exact⟨v,t (own 3 (by omega)) e⟩
  · obtain⟨v,e⟩:=A.weights; exact⟨v,t (own 4 (by omega)) e⟩
  · obtain⟨v,e⟩:=A.depths; exact⟨v,t (own 5 (by omega)) e⟩
  · obtain⟨v,e,f⟩:=A.par; exact⟨v,t (own 7 (by omega)) e,f⟩
  · intro i hi; obtain⟨xs,e,f⟩:=A.lot i hi; exact⟨xs,t (.inr (.inl ⟨i,hi,rfl⟩)) e,f⟩
  · obtain⟨v,e,f⟩:=A.merged; exact⟨v,t (own 9 (by omega)) e,f⟩
  · obtain⟨v,e,f⟩:=A.forest; exact⟨v,t (own 11 (by omega)) e,f⟩
  · obtain⟨v,w,e,f⟩:=A.known; exact⟨v,w,t (own 12 (by omega)) e,f⟩
  · obtain⟨v,w,e,f⟩:=A.above; exact⟨v,w,t (own 13 (by omega)) e,f⟩
  · intro c hc hr; exact t (.inr (.inr ⟨c,hc,hr,rfl⟩)) (A.abv c hc hr)
theorem HeapAt.app (A:HeapAt σ h H L)(t:Hp):HeapAt (σ++t) h H L:=A.frame fun l _ hl=>by rw[List.getElem?_append_left hl]
theorem HeapAt.len (A:HeapAt σ h H L):h+14<σ.length:=AN A.waiting
theorem HeapAt.low (A:HeapAt σ h H L){l:Nat}(o:BJ h H L l):h≤l:=by
  rcases o with o | ⟨i,hi,rfl⟩ | ⟨c,hc,hr,rfl⟩
  · exact o.1
  · have:=A.lrange i hi; omega
  · have:=A.arange c hc hr; omega
theorem HeapAt.high (A:HeapAt σ h H L){l:Nat}(o:BJ h H L l):l<σ.length:=by
  rcases o with o | ⟨i,hi,rfl⟩ | ⟨c,hc,hr,rfl⟩
  · have:=A.len; omega
  · obtain⟨_,e,_⟩:=A.lot i hi; exact AN e
  · exact AN (A.abv c hc hr)
structure Step (h:Nat) (H:AH) (L:Lc) (σ:Hp) (H':AH) (L':Lc) (σ':Hp):Prop where
  len:σ.length≤σ'.length
  keep:∀l,l<σ.length→¬ BJ h H L l→σ'[l]? =σ[l]?∧¬ BJ h H' L' l
theorem Step.refl:Step h H L σ H L σ:=⟨Nat.le_refl _,fun _ _ q=>⟨rfl,q⟩⟩
theorem Step.app {t:Hp}:Step h H L σ H L (σ++t):=⟨by simp,fun l hl q=>⟨by rw[List.getElem?_append_left hl],q⟩⟩
theorem Step.trans {H1 H2:AH}{L1 L2:Lc}{σ1 σ₂:Hp}(a:Step h H L σ H1 L1 σ1)(b:Step h H1 L1 σ1 H2 L2 σ₂):Step h H L σ H2 L2 σ₂:=
  ⟨Nat.le_trans a.len b.len,fun l hl q=>by
    obtain⟨e1,q1⟩:=a.keep l hl q
    obtain⟨e2,q2⟩:=b.keep l (Nat.lt_of_lt_of_le hl a.len) q1
    exact⟨e2.trans e1,q2⟩⟩
end Mine.P
namespace Mine.P
open scoped Classical
theorem CJ {tgt:Tgt}{chk:Option (Nat×SObj)}{elt:Ev}{ρ:Rho}{σ:Hp}{g:SV→SV}(hc:Cj chk σ=true)(xs:List SV):
    (∀x,x∈xs→∃ρ',Ct tgt x ρ σ=some ρ'∧elt ρ' σ=some (g x,σ))→Cu tgt chk [] elt ρ xs σ=some (xs.map g,σ):=by
  induction xs with
  | nil=>exact fun _=>Gl hc
  | cons x xs ih=>exact fun h=>(h x List.mem_cons_self).elim fun ρ' q=>Dz hc q.1 rfl (Fi q.2 (ih fun y hy=>h y (List.mem_cons_of_mem _ hy)))
theorem Hm {tgt:Tgt}{chk:Option (Nat×SObj)}{ts:List Tv}{elt:Ev}{ρ:Rho}{σ:Hp}{g:SV→SV}{p:SV→Bool}(hc:Cj chk σ=true)(xs:List SV):
    (∀x,x∈xs→∃ρ',Ct tgt x ρ σ=some ρ'∧Hu ts ρ' σ=some (p x,σ)∧(p x=true→elt ρ' σ=some (g x,σ)))→Cu tgt chk ts elt ρ xs σ=some ((xs.filter p).map g,σ):=by
  induction xs with
  | nil=>exact fun _=>Gl hc
  | cons x xs ih=>
    intro h
    obtain⟨ρ',h1,h2,h3⟩:=h x List.mem_cons_self
    have ih:=ih fun y hy=>h y (List.mem_cons_of_mem _ hy)
    cases hp:p x with
    | true=>rw[List.filter_cons_of_pos hp]; exact Dz (b:=true) hc h1 (hp▸h2) (Fi (h3 hp) ih)
    | false=>rw[List.filter_cons_of_neg (Bool.eq_false_iff.mp hp)]; exact Dz (b:=false) hc h1 (hp▸h2) ih
theorem IN {tgt:Tgt}{chk:Option (Nat×SObj)}{elt:Ev}{ρ:Rho}{σ:Hp}{g:SV→SV}(hc:∀t,Cj chk (σ++t)=true)(xs:List SV):
    ∀(t:Hp),(∀x,x∈xs→∀t,∃ρ' t',Ct tgt x ρ (σ++t)=some ρ'∧elt ρ' (σ++t)=some (g x,σ++t++t'))→∃t',Cu tgt chk [] elt ρ xs (σ++t)=some (xs.map g,σ++t'):=by
  induction xs with
  | nil=>exact fun t _=>⟨t,Gl (hc t)⟩
  | cons x xs ih=>
    intro t h
    obtain⟨ρ',t',h1,h2⟩:=h x List.mem_cons_self t
    obtain⟨t'',ih⟩:=ih (t++t') fun y hy=>h y (List.mem_cons_of_mem _ hy)
    exact⟨t'',Dz (hc t) h1 rfl (Fi h2 (List.append_assoc σ t t'▸ih))⟩
variable {σ σ':Hp}{h:Nat}{H:AH}{L:Lc}
theorem U3 (A:HeapAt σ h H L):IA [.loc (h+1)] σ=some (.int (H.n:Int),σ):=
  BF rfl (BC (Dt (Bd rfl A.bank rfl) A.nodes B8))
theorem OB (A:HeapAt σ h H L){i:Nat}(hi:i<H.n):DR [.loc (h+1),.int (i:Int)] σ=some (.str (H.nd i).1,σ):=
  BF rfl (BC (Dl (BN (Bd rfl A.bank rfl) rfl A.nodes (CX (EH hi))) rfl (by decide) rfl))
theorem Iw (A:HeapAt σ h H L){i:Nat}(hi:i<H.n)(h2:(H.nd i).2.length≤2):Cv [.loc (h+1),.int (i:Int)] σ=some (.tup (Aj (H.nd i).2),σ):=
  BF rfl (BC (HZ (BN (Bd rfl A.bank rfl) rfl A.nodes (CX (EH hi))) ⟨Nat.succ_le_succ (Nat.zero_le _),by rw[List.length_cons,Bh]; unfold lim; omega⟩))
noncomputable def OPS:List String:= ["a", "b", "c", "f", "h"]
theorem VU {op:String}(ho:op∈OPS):NY [.str op] σ=some (.bool true,σ ++ [.list [],.list []]):=by
  have e9:EW (σ ++ [SObj.list []] ++ [SObj.list []]) (.loc σ.length) (.loc (σ ++ [SObj.list []]).length)=some true:=by
    rw[JK (k:=0) (m:=0) (xs:= []) (ys:= []) (by simp) (by simp) (by simp[SV.areKeysD]) (by simp[SV.areKeysD]) (by simp[Cs]) (by simp[Cs])]
    simp
  rw[List.append_cons σ]
  simp only[OPS,List.mem_cons,List.not_mem_nil,or_false] at ho
  rcases ho with rfl | rfl | rfl | rfl | rfl <;> exact BF rfl (BC (We rfl (Lg rfl rfl e9)))
theorem TT {op:String}(ho:op∈OPS){l:Nat}:Gu [.loc l,.str op] σ=some (.none,σ ++ [.list [],.list []]):=by
  have e:=VU (σ:=σ) ho
  simp only[OPS,List.mem_cons,List.not_mem_nil,or_false] at ho
  rcases ho with rfl | rfl | rfl | rfl | rfl <;> exact GX rfl (DY (Li (XC (Gm (Di rfl e))) rfl) rfl)
theorem OC {ks:List Nat}(hk:ks.length≤2){op:SV}: [op].length+(Aj ks).length<lim:=AL (by rw[Bh]; exact Nat.le_trans (Nat.add_le_add_left hk 1) (by decide))
theorem VV {n:Nat}{nd:Nat→Nd}:(rng n fun i=>(Cz (nd i),SV.int (i:Int))).all (fun x=>x.1.isTupKey)=true:=by
  rw[List.all_eq_true]
  intro x hx
  exact(HJ.mp hx).elim fun i q=>q.2▸H7
theorem JP {n:Nat}{nd:Nat→Nd}{x:Nd}:Bz (Cz x) (rng n fun i=>(Cz (nd i),SV.int (i:Int)))=true:=D8 H7 VV
theorem VW (A:HeapAt σ h H L){j:Nat}{op:String}{ks:List Nat}(hk:ks.length≤2)(hn:H.n≤40)(hj:j<H.n)(e:H.nd j=(op,ks))(inj:∀i,i<H.n→H.nd i=H.nd j→i=j):
    GM [.loc (h+1),.str op,.tup (Aj ks)] σ=some (.int (j:Int),σ):=by
  obtain⟨ver,hnum⟩:=A.numbers
  have lk:(rng H.n fun i=>(Cz (H.nd i),SV.int (i:Int))).lookup (Cz (op,ks))=some (.int (j:Int)):=
    e▸NI (f:=fun i=>Cz (H.nd i)) (g:=fun i=>SV.int (i:Int)) hj fun i hi q=>inj i hi (MG q)
  have F:=Bd (ρ:=Rho.put [("self",.loc (h+1)),("op",.str op),("kids",.tup (Aj ks))] "node" (Cz (op,ks))) (c:= "Bank") (f:= "numbers") (x:= "self") rfl A.bank rfl
  exact BF rfl (CT (ND rfl (UX rfl) (OC hk)) (Jj (FG (Bq rfl F (Xz hnum (JP (x:=(op,ks))) (congrArg Option.isSome lk))) (BC (Fj F rfl hnum (JP (x:=(op,ks))) lk)))))
structure TakeR (σ:Hp) (h n:Nat) (nd:Nat→Nd) (σ':Hp):Prop where
  len:σ.length≤σ'.length
  keep:∀l,l<σ.length→¬ (h+2≤l∧l≤h+5)→σ'[l]? =σ[l]?
  nodes:σ'[h+2]? =some (.list (rng (n+1) fun i=>Cz (nd i)))
  numbers:∃ver,σ'[h+3]? =some (.dict (rng (n+1) fun i=>(Cz (nd i),.int (i:Int))) ver)
  weights:∃ws:Nat→Int,σ'[h+4]? =some (.list (rng (n+1) fun i=> .int (ws i)))
  depths:∃ws:Nat→Int,σ'[h+5]? =some (.list (rng (n+1) fun i=> .int (ws i)))
theorem Rg (is:List Int):ints? (is.map SV.int)=some is:=by
  induction is with
  | nil=>rfl
  | cons x xs ih=>simp[ints?,ih]
theorem OD (is:List Int):∃m,(ints? (is.map SV.int ++ [.int 0])).bind Qa=some m:=by
  have e:is.map SV.int ++ [SV.int 0]=(is ++ [0]).map SV.int:=by simp
  rw[e,Rg]
  cases is with
  | nil=>exact⟨_,rfl⟩
  | cons x xs=>exact⟨_,rfl⟩
theorem Rh {ks:List Nat}(hk:ks.length≤2){op:SV}:(op::Aj ks).length<lim:=AL (by rw[List.length_cons,Bh]; exact Nat.le_trans (Nat.add_le_add_right hk 1) (by decide))
theorem Pn {ks:List Nat}(hk:ks.length≤2){op:SV}:((op::Aj ks).drop 1).length<lim:=AL ((Bh (ks:=ks)).symm▸Nat.le_trans hk (by decide))
theorem VX {ks:List Nat}(hk:ks.length≤2){ds:Nat→Int}{x:SV}:((ks.map ds).map SV.int).length + [x].length<lim:=AL (by rw[List.length_map,List.length_map]; exact Nat.le_trans (Nat.add_le_add_right hk 1) (by decide))
theorem VY (A:HeapAt σ h H L){op:String}{ks:List Nat}(hk:ks.length≤2)(hn:H.n≤40)(ho:op∈OPS)(hlt:∀k,k∈ks→k<H.n)(fresh:∀i,i<H.n→H.nd i≠(op,ks))
    {nd':Nat→Nd} (e1:∀i,i<H.n→nd' i=H.nd i) (e2:nd' H.n=(op,ks)):
    ∃σ',GM [.loc (h+1),.str op,.tup (Aj ks)] σ=some (.int (H.n:Int),σ')∧TakeR σ h H.n nd' σ':=by
  have h3:∀{α:Type} {f:Nat→α},(rng H.n f).length<lim:=B8.symm▸AL (Nat.le_trans hn (by decide))
  obtain⟨ver,hnum⟩:=A.numbers
  obtain⟨ws,hws⟩:=A.weights
  obtain⟨ds,hds⟩:=A.depths
  have lk:(rng H.n fun i=>(Cz (H.nd i),SV.int (i:Int))).lookup (Cz (op,ks))=none:=
    NJ (f:=fun i=>Cz (H.nd i)) (g:=fun i=>SV.int (i:Int)) fun i hi q=>fresh i hi (MG q)
  have ds':=Ez (k:=Cz (op,ks)) (v:=SV.int (H.n:Int)) (JP (n:=H.n) (nd:=H.nd)) h3
  rw[GY lk] at ds'
  have rq:=TT (σ:=σ) ho (l:=h+1)
  obtain⟨σ1,hσ1⟩:∃s,σ ++ [SObj.list [],SObj.list []]=s:=⟨_,rfl⟩
  rw[hσ1] at rq
  have K1:Kp (fun l=>h+2≤l∧l≤h+5) σ σ1:=hσ1▸Kp.refl.app
  have g:∀{l o},σ[l]? =some o→σ1[l]? =some o:=fun e=>hσ1▸Ae e
  have B1:=g A.bank; have N1:=g A.nodes
  have hnum1:=g hnum
  have hws1:=g hws
  have hds1:=g hds
  obtain⟨ρ2,s2,g1,rfl,g2, -⟩:=CC (tgt:= .name "kid") (chk:=none) (body:=xIf (Jq (AJ (Kb .le .lt (Ag (.int 0)) (Ab "kid") (CD (Aq "Bank" (Ab "self") "nodes"))))) Qb Ck)
      (fun xs ρ' σ'=>σ'=σ1∧(ρ'.lookup "self" =some (.loc (h+1))∧ρ'.lookup "node" =some (Cz (op,ks)))∧∃ls,xs=Aj ls∧∀k,k∈ls→k<H.n)
      (fun _ _ _ _=>rfl) (by
        intro x xs ρ' σ' hI
        obtain⟨e0,q,ls,e,hl⟩:=hI
        cases ls with
        | nil=>exact nomatch e
        | cons k ls=>
          obtain⟨e3,e4⟩:=List.cons.inj e
          have hk:=hl k List.mem_cons_self
          have q1:(Rho.put ρ' "kid" x).lookup "self" =some (.loc (h+1)):=Au q.1 (by decide)
          exact⟨_,_,_,rfl,DY (Lh (Gm (WK rfl (Ao (AP.trans (congrArg some e3))) (congrArg some (decide_eq_true (Int.natCast_nonneg k))) (Dt (Bd q1 (e0▸B1) rfl) (e0▸N1) B8) (congrArg some (decide_eq_true (Int.ofNat_lt.mpr hk)))))) rfl,
            e0,⟨q1,Au q.2 (by decide)⟩,ls,e4,fun k' hk'=>hl k' (List.mem_cons_of_mem _ hk')⟩) (Aj ks)
      (Rho.put [("self",.loc (h+1)),("op",.str op),("kids",.tup (Aj ks))] "node" (Cz (op,ks))) σ1 ⟨rfl,⟨rfl,rfl⟩,ks,rfl,hlt⟩
  obtain⟨gs,gn⟩:=g2
  have comp:∀{f:String} {l:Nat} {vs:Nat→Int} {τ:Hp} {fs:List (String×SV)},τ[h+1]? =some (.inst "Bank" fs)→fs.lookup f=some (.loc l)→τ[l]? =some (.list (rng H.n fun i=> .int (vs i)))→
      Bb ["self"] (.name "kid") (Bn (ET (Ab "node") 1)) [] (Ap (Aq "Bank" (Ab "self") f) (Ab "kid")) ρ2 τ=some (.loc τ.length,τ ++ [.list ((ks.map vs).map SV.int)]):=by
    intro f l vs τ fs b1 b2 b3
    have:=CJ (tgt:= .name "kid") (chk:=none) (elt:=Ap (Aq "Bank" (Ab "self") f) (Ab "kid")) (ρ:= [("self",.loc (h+1))]) (σ:=τ)
      (g:=fun x=>match x with | .int i=> .int (vs i.toNat) | v=>v) rfl (Aj ks) (by
        intro x hx
        obtain⟨k,hk,e⟩:=CZ.mp hx
        exact⟨_,rfl,e▸BN (Bd rfl b1 b2) rfl b3 (CX (EH (hlt k hk)))⟩)
    have e:(Aj ks).map (fun x=>match x with | .int i=>SV.int (vs i.toNat) | v=>v)=(ks.map vs).map SV.int:=by rw[Aj,List.map_map,List.map_map]; rfl
    rw[e] at this
    exact Cy (Cf (HZ (Ao gn) ⟨Nat.succ_le_succ (Nat.zero_le _),Rh hk⟩) (DP (Pn hk))) (by rw[BW gs]; exact this) (by rw[List.length_map,List.length_map]; exact AL (Nat.le_trans hk (by decide)))
  obtain⟨mx,hmx⟩:=OD (ks.map ds)
  have F:∀{f τ v},τ[h+1]? =some (.inst "Bank" [("nodes",.loc (h+2)),("numbers",.loc (h+3)),("weights",.loc (h+4)),("depths",.loc (h+5))])→List.lookup f [("nodes",SV.loc (h+2)),("numbers",.loc (h+3)),("weights",.loc (h+4)),("depths",.loc (h+5))]=some v→
    Aq "Bank" (Ab "self") f ρ2 τ=some (v,τ):=fun a b=>Bd gs a b
  have B2:=fun x=>sn (x:=x) B1 (hne (m:=3) (n:=1) rfl)
  have B3:=fun x y=>sn (x:=y) (B2 x) (hne (m:=2) (n:=1) rfl)
  have B4:=fun x y t z=>sn (x:=z) (Ae (t:=t) (B3 x y)) (hne (m:=4) (n:=1) rfl)
  have B5:=fun x y t z t1 t2 t3 w=>sn (x:=w) (Ae (t:=t3) (Ae (t:=t2) (Ae (t:=t1) (B4 x y t z)))) (hne (m:=5) (n:=1) rfl)
  have dd:∀{m},2≤m→m≤5→h+2≤h+m∧h+m≤h+5:=fun a b=>⟨Nat.add_le_add_left a h,Nat.add_le_add_left b h⟩
  have K:=fun x y t z t1 t2 t3 w=>((((((((K1.set (x:=x) (dd (m:=3) (by decide) (by decide))).set (x:=y) (dd (m:=2) (by decide) (by decide))).app (t:=t)).set (x:=z) (dd (m:=4) (by decide) (by decide))).app (t:=t1)).app (t:=t2)).app (t:=t3)).set (x:=w) (dd (m:=5) (by decide) (by decide)))
  refine⟨_,BF rfl (CT (ND rfl (UX rfl) (OC hk)) (Bf (DY (Bq rfl (Bd rfl A.bank rfl) (Xz hnum (JP (x:=(op,ks))) (congrArg Option.isSome lk))) rfl)
    (Dk (AG rfl A.bank rfl rfl rq) rfl (Bf (FI (Cf (HZ rfl ⟨Nat.succ_le_succ (Nat.zero_le _),Rh hk⟩) (DP (Pn hk))) g1)
    (Bf (KO (Dt (F B1 rfl) N1 B8) (F B1 rfl) (Ao gn) hnum1 ds')
    (Dk (CY (F (B2 _) rfl) (sn N1 (hne rfl)) (Ao gn) (sn N1 (hne rfl)) h3) rfl
    (Dk (CY (F (B3 _ _) rfl) (sn (sn hws1 (hne rfl)) (hne rfl)) (FH rfl (X6 (comp (B3 _ _) rfl (sn (sn hws1 (hne rfl)) (hne rfl))) AE (Rg _)) rfl) (Ae (sn (sn hws1 (hne rfl)) (hne rfl))) h3) rfl
    (Dk (CY (F (B4 _ _ _ _) rfl) (sn (Ae (sn (sn hds1 (hne rfl)) (hne rfl))) (hne rfl)) (FH rfl (X7 (NE (comp (B4 _ _ _ _) rfl (sn (Ae (sn (sn hds1 (hne rfl)) (hne rfl))) (hne rfl))) rfl (Ae AE) AE (VX hk)) AE hmx) rfl)
      (Ae (Ae (Ae (sn (Ae (sn (sn hds1 (hne rfl)) (hne rfl))) (hne rfl))))) h3) rfl
    (BC (FH (Dt (F (B5 _ _ _ _ _ _ _ _) rfl) (sn (Ae (Ae (Ae (sn (Ae (AD (sn N1 (hne rfl)))) (hne rfl))))) (hne rfl)) (List.length_append.trans (congrArg (· + 1) B8))) rfl (congrArg some (show((H.n+1:Nat):Int)-1=H.n from Int.add_sub_cancel (H.n:Int) 1)))))))))))),(K _ _ _ _ _ _ _ _).len,(K _ _ _ _ _ _ _ _).keep,?_,⟨ver+1,?_⟩,⟨fun i=>if i=H.n then 1+(List.map ws ks).sum else ws i,?_⟩,⟨fun i=>if i=H.n then 1+mx else ds i,?_⟩⟩
  · exact(sn (Ae (Ae (Ae (sn (Ae (AD (sn N1 (hne rfl)))) (hne rfl))))) (hne rfl)).trans (congrArg (fun x=>some (SObj.list x)) (FP (fun i hi=>congrArg Cz (e1 i hi)) (congrArg Cz e2)))
  · exact(sn (Ae (Ae (Ae (sn (Ae (sn (AD hnum1) (hne rfl))) (hne rfl))))) (hne rfl)).trans (congrArg (fun x=>some (SObj.dict x _)) (FP (fun i hi=>congrArg (fun x=>(Cz x,SV.int (i:Int))) (e1 i hi)) (congrArg (fun x=>(Cz x,SV.int (H.n:Int))) e2)))
  · exact(sn (Ae (Ae (Ae (AD (Ae (sn (sn hws1 (hne rfl)) (hne rfl))))))) (hne rfl)).trans (congrArg (fun x=>some (SObj.list x)) (FP (g:=fun i=>SV.int (if i=H.n then 1+(List.map ws ks).sum else ws i)) (fun i hi=>congrArg SV.int (if_neg (Nat.ne_of_lt hi))) (congrArg SV.int (if_pos rfl))))
  · exact(AD (Ae (Ae (Ae (sn (Ae (sn (sn hds1 (hne rfl)) (hne rfl))) (hne rfl)))))).trans (congrArg (fun x=>some (SObj.list x)) (FP (g:=fun i=>SV.int (if i=H.n then 1+mx else ds i)) (fun i hi=>congrArg SV.int (if_neg (Nat.ne_of_lt hi))) (congrArg SV.int (if_pos rfl))))
end Mine.P
namespace Mine.P
open scoped Classical
variable {σ σ':Hp}{h:Nat}{H:AH}{L:Lc}
theorem HeapAt.rle (A:HeapAt σ h H L):∀a,a<H.n→H.r a≤a∧H.r (H.r a)=H.r a:=by
  obtain⟨p,_,hp⟩:=A.par
  intro a
  induction a using Nat.strongRecOn with
  | _ a ih=>
    intro ha
    obtain⟨h1,h2,h3⟩:=hp a ha
    by_cases e:p a=a
    · have:=h3 e
      rw[this,this]; exact⟨Nat.le_refl _,rfl⟩
    · have:=ih (p a) (by omega) (by omega)
      rw[h2] at this
      exact⟨by omega,this.2⟩
theorem HeapAt.rlt (A:HeapAt σ h H L){a:Nat}(ha:a<H.n):H.r a<H.n:=by have:=(A.rle a ha).1; omega
theorem HK (A:HeapAt σ h H L)(hn:H.n≤40){a:Nat}(ha:a<H.n):DM [.loc (h+6),.int (a:Int)] σ=some (.int (H.r a:Int),σ):=by
  obtain⟨p,ep,hp⟩:=A.par
  obtain⟨ρ',σ',g1,g2,g3⟩:=GW (t:=AJ (AM .ne (Ap (Aq "Unions" (Ab "self") "above") (Ab "a")) (Ab "a"))) (body:=Bi (.name "a") (Ap (Aq "Unions" (Ab "self") "above") (Ab "a")))
    (fun m ρ τ=>τ=σ∧ρ.lookup "self" =some (.loc (h+6))∧ρ.lookup "a" =some (.int (m:Int))∧m<H.n∧H.r m=H.r a)
    (fun ρ τ=>τ=σ∧ρ.lookup "a" =some (.int (H.r a:Int))) (by
      intro m ρ τ hI
      obtain⟨rfl,q1,q2,q3,q4⟩:=hI
      obtain⟨h1,h2,h3⟩:=hp m q3
      have X:Ap (Aq "Unions" (Ab "self") "above") (Ab "a") ρ τ=some (.int (p m:Int),τ):=BN (Bd q1 A.unions rfl) (Ao q2) ep (CX (EH q3))
      by_cases e:p m=m
      · exact⟨false,τ,Bq X (Ao q2) (Ir (congrArg _ e)),fun _=>⟨rfl,(h3 e).symm.trans q4▸q2⟩,nofun⟩
      · exact⟨true,τ,Bq X (Ao q2) (Qd fun q=>e (Int.ofNat.inj q)),nofun,fun _=>⟨_,τ,p m,Gn X,Nat.lt_of_le_of_ne h1 e,rfl,Au q1 (by decide),AP,Nat.lt_of_le_of_lt h1 q3,h2.trans q4⟩⟩)
    (m:=a) (ρ:= [("self",.loc (h+6)),("a",.int (a:Int))]) (σ:=σ) (Nat.lt_of_lt_of_le ha (Nat.le_trans hn (by decide))) ⟨rfl,rfl,rfl,ha,rfl⟩
  subst g2
  exact BF rfl (Bf g1 (BC (Ao g3)))
theorem DZ (A:HeapAt σ h H L)(hn:H.n≤40){a:Nat}(ha:a<H.n):Bu [.loc h,.int (a:Int)] σ=some (.int (H.r a:Int),σ):=
  BF rfl (BC (AG (Bd rfl A.inst rfl) A.unions rfl rfl (HK A hn ha)))
theorem KS (A:HeapAt σ h H L):Fq [.loc h] σ=some (.int (H.n:Int),σ):=
  BF rfl (BC (AG (Bd rfl A.inst rfl) A.bank rfl rfl (U3 A)))
theorem WN (A:HeapAt σ h H L):FA [.loc (h+6)] σ=some (.int (H.n:Int),σ):=
  A.par.elim fun p q=>BF rfl (BC (Dt (Bd rfl A.unions rfl) q.1 B8))
theorem Hn {xs:List Nat}(hl:xs.length<64):EX (Aj xs)=true:=by unfold EX; rw[IM,Bh,decide_eq_true hl]; rfl
theorem TU (A:HeapAt σ h H L)(hn:H.n≤40){a:Nat}(ha:a<H.n){xs:List Nat}(hx:σ[L.lo (H.r a)]? =some (.list (Aj xs)))(hl:xs.length<64):
    FK [.loc (h+6),.int (a:Int)] σ=some (.loc σ.length,σ ++ [.list (AS (Aj xs))]):=
  BF rfl (BC (FO (BN (Bd rfl A.unions rfl) (AG rfl A.unions rfl rfl (HK A hn ha)) A.lots (CX (EH (A.rlt ha)))) (Dw hx) (Hn hl)))
theorem Ri (A:HeapAt σ h H L)(hn:H.n≤40){a:Nat}(ha:a<H.n){xs:List Nat}(hx:σ[L.lo (H.r a)]? =some (.list (Aj xs)))(hl:xs.length<64):
    Fb [.loc h,.int (a:Int)] σ=some (.loc σ.length,σ ++ [.list (AS (Aj xs))]):=
  BF rfl (BC (AG (Bd rfl A.inst rfl) A.unions rfl rfl (TU A hn ha hx hl)))
noncomputable def BK (n:Nat)(r:Nat→Nat):List Nat:=(List.range n).filter fun a=>decide (r a=a)
theorem HeapAt.root_iff (A:HeapAt σ h H L){p:Nat→Nat}(hp:∀i,i<H.n→p i≤i∧H.r (p i)=H.r i∧(p i=i→H.r i=i)){i:Nat}(hi:i<H.n):p i=i↔H.r i=i:=by
  obtain⟨h1,h2,h3⟩:=hp i hi
  refine⟨h3,fun e=>?_⟩
  have:=(A.rle (p i) (by omega)).1
  omega
theorem VZ {n:Nat}{r:Nat→Nat}:(BK n r).length≤n:=Nat.le_trans (List.length_filter_le ..) (Nat.le_of_eq List.length_range)
theorem TV (A:HeapAt σ h H L)(hn:H.n≤40):FL [.loc (h+6)] σ=some (.loc σ.length,σ ++ [.list (Aj (BK H.n H.r))]):=by
  obtain⟨p,ep,hp⟩:=A.par
  have:=Hm (tgt:= .name "a") (chk:=none) (ts:= [AJ (AM .eq (Ap (Aq "Unions" (Ab "self") "above") (Ab "a")) (Ab "a"))]) (elt:=Ab "a") (ρ:= [("self",.loc (h+6))]) (σ:=σ)
    (g:=id) (p:=fun x=>match x with | .int x=>decide (H.r x.toNat=x.toNat) | _=>false) rfl (Aj (List.range H.n)) (by
      intro x hx
      obtain⟨k,hk,rfl⟩:=CZ.mp hx
      have hk:=List.mem_range.mp hk
      have X:=BN (ρ:=Rho.put [("self",.loc (h+6))] "a" (.int (k:Int))) (Bd (c:= "Unions") (f:= "above") (x:= "self") rfl A.unions rfl) (Ao (x:= "a") rfl) ep (CX (EH hk))
      refine⟨_,rfl,Pl.trans (Bq X rfl ?_),fun _=>rfl⟩
      have:=A.root_iff hp hk
      by_cases e:p k=k
      · exact(Iq (congrArg _ e)).trans (congrArg some (decide_eq_true (this.mp e)).symm)
      · exact(JL fun q=>e (Int.ofNat.inj q)).trans (congrArg some (decide_eq_false (mt this.mpr e)).symm))
  rw[List.map_id] at this
  have e:(Aj (List.range H.n)).filter (fun x=>match x with | .int x=>decide (H.r x.toNat=x.toNat) | _=>false)=Aj (BK H.n H.r):=by
    unfold Aj BK
    rw[List.filter_map]
    congr 1
  rw[e] at this
  exact BF rfl (BC (Cy (HI (Dt (Bd rfl A.unions rfl) ep B8) (AL (Nat.le_trans hn (by decide)))) this (AL ((Bh (ks:=BK H.n H.r)).symm▸Nat.le_trans VZ (Nat.le_trans hn (by decide))))))
theorem KU (A:HeapAt σ h H L)(hn:H.n≤40):Eg [.loc h] σ=some (.loc σ.length,σ ++ [.list (Aj (BK H.n H.r))]):=
  BF rfl (BC (AG (Bd rfl A.inst rfl) A.unions rfl rfl (TV A hn)))
theorem NK (A:HeapAt σ h H L)(hw:H.wt= []):Fo [.loc h] σ=some (.bool true,σ):=
  BF rfl (BC (Lg (Dt (Bd rfl A.inst rfl) (hw▸A.waiting) rfl) rfl (Iq rfl)))
noncomputable def BD (H:AH)(i:Nat):Nd:=((H.nd i).1,(H.nd i).2.map H.r)
theorem En {ks:List Nat}(hk:ks.length≤2):(Aj ks).length<lim:=AL ((Bh (ks:=ks)).symm▸Nat.le_trans hk (by decide))
theorem U4 (A:HeapAt σ h H L)(hn:H.n≤40){i:Nat}(hi:i<H.n)(h2:(H.nd i).2.length≤2)(hlt:∀k,k∈(H.nd i).2→k<H.n):
    Fr [.loc h,.int (i:Int)] σ=some (Cz (BD H i),σ ++ [.list (Aj (BD H i).2)]):=by
  have h3:(BD H i).2.length≤2:=by unfold BD; rw[List.length_map]; exact h2
  have:=CJ (tgt:= .name "kid") (chk:=none) (elt:=AB "Heap" "find" Bu (Ab "self") [Ab "kid"]) (ρ:= [("self",.loc h)]) (σ:=σ)
    (g:=fun x=>match x with | .int x=> .int (H.r x.toNat:Int) | v=>v) rfl (Aj (H.nd i).2) (by
      intro x hx
      obtain⟨k,hk,e⟩:=CZ.mp hx
      exact⟨_,rfl,e▸AG rfl A.inst rfl rfl (DZ A hn (hlt k hk))⟩)
  have e:(Aj (H.nd i).2).map (fun x=>match x with | .int x=>SV.int (H.r x.toNat:Int) | v=>v)=Aj (BD H i).2:=by unfold BD; rw[Aj,Aj,List.map_map,List.map_map]; rfl
  rw[e] at this
  exact BF rfl (BC (ND (EV (AA (AG (Bd rfl A.inst rfl) A.bank rfl rfl (OB A hi)) rfl))
    (Jk (Cy (Cf (AG (Bd rfl A.inst rfl) A.bank rfl rfl (Iw A hi h2)) (DP (En h2))) this (En h3)) AE) (OC h3)))
end Mine.P
namespace Mine.P
open scoped Classical
variable {σ σ':Hp}{h:Nat}{H:AH}{L:Lc}
theorem H9 {a b:Nat}:AS [.int (a:Int),.int (b:Int)]= [.int ((min a b:Nat):Int),.int ((max a b:Nat):Int)]:=by
  rw[VR]
  by_cases q:a<b
  · rw[if_pos (by omega),Nat.min_eq_left (by omega),Nat.max_eq_right (by omega)]
  · rw[if_neg (by omega),Nat.min_eq_right (by omega),Nat.max_eq_left (by omega)]
theorem Rk {a b:Nat}:EX [SV.int (a:Int),SV.int (b:Int)]=true:=Hn (xs:= [a,b]) (show 2<64 by decide)
theorem V0 (A:HeapAt σ h H L)(hn:H.n≤40){a b:Nat}(ha:a<H.n)(hb:b<H.n)(e:H.r a=H.r b):
    ∃t,Fa [.loc (h+6),.int (a:Int),.int (b:Int)] σ=some (.none,σ++t):=by
  have so:AS [.int (H.r a:Int),.int (H.r b:Int)]= [.int (H.r a:Int),.int (H.r a:Int)]:=by rw[H9, ←e,Nat.min_self,Nat.max_self]
  exact⟨_,(BF rfl (Bf (Go (FO (Ji (AA (AG rfl A.unions rfl rfl (HK A hn ha)) (AA (AG rfl A.unions rfl rfl (HK A hn hb)) rfl))) (Dw AE) Rk) (Hy (AE.trans (congrArg (fun x=>some (SObj.list x)) so))))
    (Jj (FG (Bq rfl rfl (Iq rfl)) (BC rfl))))).trans (congrArg (fun s=>some (SV.none,s)) (List.append_assoc ..))⟩
structure MergeR (σ:Hp) (h n k g:Nat) (p:Nat→Nat) (lk:Nat) (xs ys:List Nat) (ms:List SV) (σ':Hp):Prop where
  keep:Kp (Ch h [7,9] lk) σ σ'
  par:σ'[h+7]? =some (.list (rng n fun i=> .int ((if i=g then k else p i:Nat):Int)))
  lot:σ'[lk]? =some (.list (Aj (xs++ys)))
  mrg:∃x,σ'[h+9]? =some (.list (ms ++ [x]))
structure Two (H:AH) (a b k g:Nat):Prop where
  so:AS [.int (H.r a:Int),.int (H.r b:Int)]= [.int (k:Int),.int (g:Int)]
  kn:k<H.n
  gn:g<H.n
  kg:k<g
  kr:H.r k=k
  gr:H.r g=g
theorem XK (A:HeapAt σ h H L){a b:Nat}(ha:a<H.n)(hb:b<H.n)(e:H.r a≠H.r b):Two H a b (min (H.r a) (H.r b)) (max (H.r a) (H.r b)):=by
  have hra:=A.rle a ha; have hrb:=A.rle b hb
  have la:=A.rlt ha; have lb:=A.rlt hb
  have so:=H9 (a:=H.r a) (b:=H.r b)
  rcases Nat.lt_or_gt_of_ne e with q | q
  · rw[Nat.min_eq_left (Nat.le_of_lt q),Nat.max_eq_right (Nat.le_of_lt q)] at so ⊢
    exact⟨so,la,lb,q,hra.2,hrb.2⟩
  · rw[Nat.min_eq_right (Nat.le_of_lt q),Nat.max_eq_left (Nat.le_of_lt q)] at so ⊢
    exact⟨so,lb,la,q,hrb.2,hra.2⟩
theorem Dm {a b:Nat}(h:a≠b):¬ (a:Int)=(b:Int):=fun q=>h (Int.ofNat.inj q)
theorem V1 (A:HeapAt σ h H L)(hn:H.n≤40){a b:Nat}(ha:a<H.n)(hb:b<H.n){k g:Nat}(T:Two H a b k g){p:Nat→Nat}{xs ys:List Nat}{ms:List SV}(hms:σ[h+9]? =some (.list ms))(hml':ms.length<lim)
    (hp:σ[h+7]? =some (.list (rng H.n fun i=> .int (p i:Int)))) (hx:σ[L.lo k]? =some (.list (Aj xs))) (hy:σ[L.lo g]? =some (.list (Aj ys))) (hl:xs.length+ys.length<lim):
    ∃σ',Fa [.loc (h+6),.int (a:Int),.int (b:Int)] σ=some (.tup [.int (k:Int),.int (g:Int)],σ')∧MergeR σ h H.n k g p (L.lo k) xs ys ms σ':=by
  have bk:=A.lrange k T.kn
  have bg:=A.lrange g T.gn
  have U:=fun x y=>Ae (t:=y) (Ae (t:=x) A.unions)
  have O:=fun x y=>Ae (t:=y) (Ae (t:=x) A.lots)
  have P:=fun x y=>Ae (t:=y) (Ae (t:=x) hp)
  have X:=fun x y=>Ae (t:=y) (Ae (t:=x) hx)
  have Y:=fun x y=>Ae (t:=y) (Ae (t:=x) hy)
  have M:=fun x y=>Ae (t:=y) (Ae (t:=x) hms)
  have ne:L.lo k≠L.lo g:=fun q=>Nat.ne_of_lt T.kg (A.linj k g T.kn T.gn q)
  refine⟨_,BF rfl (Bf (Go (FO (Ji (AA (AG rfl A.unions rfl rfl (HK A hn ha)) (AA (AG rfl A.unions rfl rfl (HK A hn hb)) rfl))) (Dw AE) Rk) (Hy (AE.trans (congrArg (fun x=>some (SObj.list x)) T.so))))
    (Bf (DY (Bq rfl rfl (JL (Dm (Nat.ne_of_lt T.kg)))) rfl)
    (Bf (U2 rfl (Bd rfl (U _ _) rfl) rfl (P _ _) ⟨Int.natCast_nonneg g,B8.symm▸T.gn⟩)
    (Dk (Rc (BN (Bd rfl (sn (U _ _) (hne rfl)) rfl) rfl (sn (O _ _) (hne rfl)) (CX (EH T.kn))) (sn (X _ _) (Cn bk rfl)) (BN (Bd rfl (sn (U _ _) (hne rfl)) rfl) rfl (sn (O _ _) (hne rfl)) (CX (EH T.gn)))
      (sn (X _ _) (Cn bk rfl)) (sn (Y _ _) (Cn bg rfl)) ⟨ne,(Bh (ks:=xs)).symm▸(Bh (ks:=ys)).symm▸hl⟩) rfl
    (Dk (CY (Bd rfl (sn (sn (U _ _) (hne rfl)) (Cn bk rfl).symm) rfl) (sn (sn (M _ _) (hne rfl)) (Cn bk rfl).symm) rfl (sn (sn (M _ _) (hne rfl)) (Cn bk rfl).symm) hml') rfl
    (BC rfl)))))),((((Kp.refl.app.app).set (JO rfl)).set (.inl rfl)).set (JO rfl)),?_,?_,⟨_,AD (sn (sn (M _ _) (hne rfl)) (Cn bk rfl).symm)⟩⟩
  · exact(sn (sn (AD (P _ _)) (Cn bk rfl).symm) (hne rfl)).trans (congrArg (fun x=>some (SObj.list x)) (WM.trans (It fun i _=>(apply_ite (fun n:Nat=>SV.int n) ..).symm)))
  · exact(sn (AD (sn (X _ _) (Cn bk rfl))) (Cn bk rfl)).trans (congrArg (fun x=>some (SObj.list x)) IL.symm)
noncomputable def Bv (r:Nat→Nat)(k g:Nat):Nat→Nat:=fun x=>if r x=g then k else r x
noncomputable def Du (a b:Nat)(reason:SV):SV:= .tup [.int (a:Int),.int (b:Int),reason]
noncomputable def C8 (H:AH)(a b:Nat)(reason:SV):AH:=
  if H.r a=H.r b then { H with ed:=H.ed ++ [Du a b reason] }
  else
    let k:=min (H.r a) (H.r b)
    let g:=max (H.r a) (H.r b)
    { H with r:=Bv H.r k g,A:=fun c=>if c=k then H.A k++H.A g else if c=g then [] else H.A c,wt:=H.wt++H.A g,ed:=H.ed ++ [Du a b reason] }
theorem HeapAt.mod (A:HeapAt σ h H L){ed:List SV}{K:Nd→Option Nat}{kn:Nat}{B:Nat→List Nat}{wt:List Nat}(t:∀{m o},σ[h+m]? =some o→Gp [10,12,14] m=true→σ'[h+m]? =some o)
    (lot:∀{i o},i<H.n→σ[L.lo i]? =some o→σ'[L.lo i]? =some o) (abv:∀c,c<H.n→H.r c=c→σ'[L.al c]? =some (.list (Aj (B c)))) (e10:σ'[h+10]? =some (.list ed)) (le:H.ed.length≤ed.length)
    (e12:∃kvs ver,σ'[h+12]? =some (.dict kvs ver)∧kvs.all (fun x=>x.1.isTupKey)=true∧kvs.length≤kn∧∀x,kvs.lookup (Cz x)=(K x).map fun(m:Nat)=>SV.int (m:Int)) (e14:σ'[h+14]? =some (.list (Aj wt))):
    HeapAt σ' h { H with ed:=ed,K:=K,kn:=kn,A:=B,wt:=wt } L:=
  ⟨t (m:=0) A.inst rfl,t A.bank rfl,t A.nodes rfl,A.numbers.imp fun v e=>t e rfl,A.weights.imp fun v e=>t e rfl,A.depths.imp fun v e=>t e rfl,t A.unions rfl,A.par.imp fun v e=>⟨t e.1 rfl,e.2⟩,t A.lots rfl,
    fun i hi=>(A.lot i hi).imp fun xs e=>⟨lot hi e.1,e.2⟩,A.merged.imp fun v e=>⟨t e.1 rfl,Nat.le_trans e.2 le⟩,e10,A.forest.imp fun v e=>⟨t e.1 rfl,Nat.le_trans e.2 le⟩,
    e12,A.above.imp fun v e=>e.imp fun w e=>⟨t e.1 rfl,e.2⟩,abv,e14,A.lrange,A.arange,A.linj,A.ainj,A.la⟩
theorem NL {m k:Nat}{ms:List Nat}(e:Gp ms m=true)(q:ms.elem k=true):h+k≠h+m:=fun w=>by
  have:=Nat.add_left_cancel w
  subst this
  have e:=(Iv e).2
  rw[q] at e; exact nomatch e
theorem HeapAt.edges_only (A:HeapAt σ h H L){x:SV}:HeapAt (σ.set (h+10) (.list (H.ed ++ [x]))) h { H with ed:=H.ed ++ [x] } L:=
  A.mod (fun e q=>sn e (NL q rfl)) (fun hi e=>sn e (Cn (A.lrange _ hi) rfl)) (fun c hc hr=>sn (A.abv c hc hr) (Cn (A.arange c hc hr) rfl)) (AD A.edges) (List.length_append.symm▸Nat.le_add_right ..)
    (A.known.imp fun v e=>e.imp fun w e=>⟨sn e.1 (hne rfl),e.2⟩) (sn A.waiting (hne rfl))
theorem HeapAt.wt_upd (A:HeapAt σ h H L){w:List Nat}:HeapAt (σ.set (h+14) (.list (Aj w))) h { H with wt:=w } L:=
  A.mod (fun e q=>sn e (NL q rfl)) (fun hi e=>sn e (Cn (A.lrange _ hi) rfl)) (fun c hc hr=>sn (A.abv c hc hr) (Cn (A.arange c hc hr) rfl)) (sn A.edges (hne rfl)) (Nat.le_refl _)
    (A.known.imp fun v e=>e.imp fun w e=>⟨sn e.1 (hne rfl),e.2⟩) (AD A.waiting)
theorem HeapAt.known_upd (A:HeapAt σ h H L){x:Nd}{m:Nat}{kvs:List (SV×SV)}{ver ver':Nat}(hd:σ[h+12]? =some (.dict kvs ver))(ok:kvs.all (fun x=>x.1.isTupKey)=true∧kvs.length≤H.kn∧∀x,kvs.lookup (Cz x)=(H.K x).map fun(m:Nat)=>SV.int (m:Int)):
    HeapAt (σ.set (h+12) (.dict (AW kvs (Cz x) (.int (m:Int))) ver')) h { H with K:=fun y=>if y=x then some m else H.K y,kn:=H.kn+1 } L:=
  A.mod (fun e q=>sn e (NL q rfl)) (fun hi e=>sn e (Cn (A.lrange _ hi) rfl)) (fun c hc hr=>sn (A.abv c hc hr) (Cn (A.arange c hc hr) rfl)) (sn A.edges (hne rfl)) (Nat.le_refl _)
    ⟨_,_,AD hd,Fy H7 ok.1,Nat.le_trans dictPut_length (Nat.add_le_add_right ok.2.1 1),fun y=>by
      rw[El,ok.2.2]
      by_cases q:y=x
      · rw[if_pos q,if_pos (congrArg _ q)]; rfl
      · rw[if_neg q,if_neg fun w=>q (MG w)]⟩ (sn A.waiting (hne rfl))
theorem HeapAt.A_upd (A:HeapAt σ h H L){c:Nat}(hc:c<H.n)(hr:H.r c=c){w:List Nat}:HeapAt (σ.set (L.al c) (.list (Aj w))) h { H with A:=fun d=>if d=c then w else H.A d } L:=
  have ra:=A.arange c hc hr
  have t:∀{m o},σ[h+m]? =some o→Nat.blt m 15=true→(σ.set (L.al c) (.list (Aj w)))[h+m]? =some o:=fun e q=>sn e (Cn ra q).symm
  A.mod (fun e q=>t e (Iv q).1) (fun hi e=>sn e (A.la _ c hi hc hr).symm) (fun d hd hrd=>by
    by_cases q:d=c
    · rw[if_pos q,q]; exact AD (A.abv c hc hr)
    · rw[if_neg q]; exact sn (A.abv d hd hrd) fun w=>q (A.ainj d c hd hc hrd hr w.symm)) (t A.edges rfl) (Nat.le_refl _)
    (A.known.imp fun v e=>e.imp fun w e=>⟨t e.1 rfl,e.2⟩) (t A.waiting rfl)
theorem OE {a b:Nat}{x:SV}:(C8 H a b x).n=H.n:=by unfold C8; split <;> rfl
noncomputable def Wg (H:AH)(a b:Nat)(x:SV)(k g:Nat):AH:={ H with r:=Bv H.r k g,A:=fun c=>if c=k then H.A k++H.A g else if c=g then [] else H.A c,wt:=H.wt++H.A g,ed:=H.ed ++ [Du a b x] }
theorem Po {r:Nat→Nat}{k g:Nat}(kr:r k=k)(kg:k<g){c:Nat}:Bv r k g c=c↔r c=c∧c≠g:=by
  unfold Bv
  by_cases q:r c=g
  · rw[if_pos q]
    exact⟨fun q2=>absurd (kr.symm.trans (q2▸q)) (Nat.ne_of_lt kg),fun q2=>absurd (q2.1.symm.trans q) q2.2⟩
  · rw[if_neg q]
    exact⟨fun q2=>⟨q2,fun q3=>q (by rw[q2,q3])⟩,fun q2=>q2.1⟩
theorem HeapAt.joined (A:HeapAt σ h H L){a b:Nat}{x:SV}{k g fr:Nat}(T:Two H a b k g){p:Nat→Nat}(hpp:∀i,i<H.n→p i≤i∧H.r (p i)=H.r i∧(p i=i→H.r i=i)){xs ys:List Nat}
    (fx:xs.Nodup∧∀u,u∈xs↔u<H.n∧H.r u=k) (fy:ys.Nodup∧∀u,u∈ys↔u<H.n∧H.r u=g) {kvs:List (SV×SV)}
    (ab:kvs.all (fun x=>x.1.isInt)=true∧(kvs.map (·.1)).Nodup∧kvs.length≤H.n∧∀c:Nat,kvs.lookup (.int (c:Int))=if c<H.n∧H.r c=c then some (.loc (L.al c)) else none) (hfr:σ.length≤fr)
    (K:Kp (Ch h [7,9,10,11,13,14] (L.lo k)) σ σ')
    (f7:σ'[h+7]? =some (.list (rng H.n fun i=> .int ((if i=g then k else p i:Nat):Int)))) (fk:σ'[L.lo k]? =some (.list (Aj (xs++ys))))
    (f9:∃ms,σ'[h+9]? =some (.list ms)∧ms.length≤(H.ed ++ [Du a b x]).length) (f10:σ'[h+10]? =some (.list (H.ed ++ [Du a b x]))) (f11:∃ms,σ'[h+11]? =some (.list ms)∧ms.length≤(H.ed ++ [Du a b x]).length)
    (f13:∃v,σ'[h+13]? =some (.dict (AW (Ci kvs (.int (g:Int))) (.int (k:Int)) (.loc fr)) v)) (f14:σ'[h+14]? =some (.list (Aj (H.wt++H.A g)))) (ff:σ'[fr]? =some (.list (Aj (H.A k++H.A g)))):
    HeapAt σ' h (Wg H a b x k g) { lo:=L.lo,al:=fun c=>if c=k then fr else L.al c }:=by
  obtain⟨so,kn,gn,kg,kr,gr⟩:=T
  obtain⟨hall,hnd,hlen,hlk⟩:=ab
  have old:= @Po H.r k g kr kg
  have lk:=A.lrange k kn
  have t:∀{m o},σ[h+m]? =some o→Gp [7,9,10,11,13,14] m=true→σ'[h+m]? =some o:=fun e q=>K.get e (Rf lk q)
  have lt:∀{l o},σ[l]? =some o→l<fr:=fun e=>Nat.lt_of_lt_of_le (AN e) hfr
  have jg:∀{u},Bv H.r k g u=k↔H.r u=k∨H.r u=g:=by
    intro u
    unfold Bv
    by_cases q:H.r u=g
    · rw[if_pos q]; exact⟨fun _=> .inr q,fun _=>rfl⟩
    · rw[if_neg q]; exact⟨.inl,fun w=>w.resolve_right q⟩
  constructor
  case inst=>exact t (m:=0) A.inst rfl
  case bank=>exact t A.bank rfl
  case nodes=>exact t A.nodes rfl
  case numbers=>exact A.numbers.imp fun v e=>t e rfl
  case weights=>exact A.weights.imp fun v e=>t e rfl
  case depths=>exact A.depths.imp fun v e=>t e rfl
  case unions=>exact t A.unions rfl
  case lots=>exact t A.lots rfl
  case known=>exact A.known.imp fun v e=>e.imp fun w e=>⟨t e.1 rfl,e.2⟩
  case par=>
    refine⟨fun i=>if i=g then k else p i,f7,fun i hi=>?_⟩
    obtain⟨h1,h2,h3⟩:=hpp i hi
    show(if i=g then k else p i)≤i∧Bv H.r k g (if i=g then k else p i)=Bv H.r k g i∧((if i=g then k else p i)=i→Bv H.r k g i=i)
    by_cases q:i=g
    · rw[if_pos q,q]
      exact⟨Nat.le_of_lt kg,(old.mpr ⟨kr,Nat.ne_of_lt kg⟩).trans (jg.mpr (.inr gr)).symm,fun q=>absurd q (Nat.ne_of_lt kg)⟩
    · rw[if_neg q]
      exact⟨h1,by unfold Bv; rw[h2],fun q2=>old.mpr ⟨h3 q2,q⟩⟩
  case lot=>
    intro i hi
    by_cases q:i=k
    · subst q
      refine⟨_,fk,fun _=>⟨List.nodup_append.mpr ⟨fx.1,fy.1,fun u hu v hv q=>?_⟩,fun u=>?_⟩⟩
      · exact Nat.ne_of_lt kg (((fx.2 u).mp hu).2.symm.trans ((fy.2 u).mp (q▸hv)).2)
      · rw[List.mem_append,fx.2,fy.2]
        show _↔u<H.n∧Bv H.r i g u=i
        rw[jg]
        exact and_or_left.symm
    · obtain⟨xs',ex,fx⟩:=A.lot i hi
      refine⟨xs',K.get ex (Lk rfl (A.lrange i hi) fun q2=>q (A.linj i k hi kn q2)),fun q2=>?_⟩
      obtain⟨q3,q4⟩:=old.mp q2
      obtain⟨nx,mx⟩:=fx q3
      refine⟨nx,fun u=>(mx u).trans ?_⟩
      show _↔u<H.n∧Bv H.r k g u=i
      unfold Bv
      by_cases q5:H.r u=g
      · rw[if_pos q5]; exact⟨fun w=>absurd (w.2.symm.trans q5) q4,fun w=>absurd w.2.symm q⟩
      · rw[if_neg q5]
  case merged=>exact f9
  case edges=>exact f10
  case forest=>exact f11
  case waiting=>exact f14
  case above=>
    obtain⟨v,e⟩:=f13
    have hk':(Ci kvs (.int (g:Int))).lookup (.int (k:Int))=some (.loc (L.al k)):=by
      rw[GH hnd,if_neg fun q=>Dm (Nat.ne_of_lt kg) (SV.int.inj q),hlk,if_pos ⟨kn,kr⟩]
    refine⟨_,v,e,Fy (by rfl) (LR hall),Hl (PZ hnd),?_,fun c=>?_⟩
    · rw[Hf hk']; exact Nat.le_trans dictDel_length hlen
    · show _=if c<H.n∧Bv H.r k g c=c then some (SV.loc (if c=k then fr else L.al c)) else none
      rw[El,GH hnd,hlk]
      by_cases q:c=k
      · rw[if_pos q,if_pos (q▸rfl),if_pos ⟨q▸kn,old.mpr ⟨q▸kr,q▸Nat.ne_of_lt kg⟩⟩]
      · rw[if_neg (fun w=>Dm q (SV.int.inj w)),if_neg q]
        by_cases q2:c=g
        · rw[if_pos (q2▸rfl),if_neg fun w=>(old.mp w.2).2 q2]
        · rw[if_neg fun w=>Dm q2 (SV.int.inj w)]
          exact ite_congr (propext (and_congr_right fun _=>⟨fun w=>old.mpr ⟨w,q2⟩,fun w=>(old.mp w).1⟩)) (fun _=>rfl) fun _=>rfl
  case abv=>
    intro c hc hr
    obtain⟨q3,q4⟩:=old.mp hr
    show σ'[if c=k then fr else L.al c]? =some (.list (Aj (if c=k then H.A k++H.A g else if c=g then [] else H.A c)))
    by_cases q:c=k
    · rw[if_pos q,if_pos q]; exact ff
    · rw[if_neg q,if_neg q,if_neg q4]
      exact K.get (A.abv c hc q3) (Lk rfl (A.arange c hc q3) fun w=>A.la k c kn hc q3 w.symm)
  case lrange=>exact A.lrange
  case arange=>
    intro c hc hr
    show h+15≤if c=k then fr else L.al c
    split
    · exact Nat.le_trans A.len hfr
    · exact A.arange c hc (old.mp hr).1
  case linj=>exact A.linj
  case ainj=>
    intro c d hc hd hrc hrd
    show(if c=k then fr else L.al c)=(if d=k then fr else L.al d)→c=d
    have hrc:=(old.mp hrc).1
    have hrd:=(old.mp hrd).1
    by_cases q1:c=k
    · by_cases q2:d=k
      · exact fun _=>q1.trans q2.symm
      · rw[if_pos q1,if_neg q2]; exact fun w=>absurd w.symm (Nat.ne_of_lt (lt (A.abv d hd hrd)))
    · by_cases q2:d=k
      · rw[if_neg q1,if_pos q2]; exact fun w=>absurd w (Nat.ne_of_lt (lt (A.abv c hc hrc)))
      · rw[if_neg q1,if_neg q2]; exact A.ainj c d hc hd hrc hrd
  case la=>
    intro i c hi hc hrc
    show L.lo i≠if c=k then fr else L.al c
    have hrc:=(old.mp hrc).1
    split
    · exact(A.lot i hi).elim fun _ e=>Nat.ne_of_lt (lt e.1)
    · exact A.la i c hi hc hrc
end Mine.P
namespace Mine.P
open scoped Classical
variable {σ σ':Hp}{h:Nat}{H:AH}{L:Lc}
theorem BX:∀(n:Nat) (zs:List Nat),zs.Nodup→(∀u,u∈zs→u<n)→zs.length≤n
  | 0, [],_,_=>by simp
  | 0,z::zs,_,h=>absurd (h z List.mem_cons_self) (Nat.not_lt_zero _)
  | n+1,zs,hd,h=>by
    by_cases q:n∈zs
    · have:=BX n (zs.erase n) (hd.erase n) fun u hu=>by
        have:=(hd.mem_erase_iff).mp hu
        have:=h u this.2
        omega
      rw[List.length_erase_of_mem q] at this
      omega
    · have:=BX n zs hd fun u hu=>by
        have:=h u hu
        have:u≠n:=fun w=>q (w▸hu)
        omega
      omega
theorem U5 {a b:Nat}{x:SV}(e:H.r a≠H.r b):C8 H a b x=Wg H a b x (min (H.r a) (H.r b)) (max (H.r a) (H.r b)):=if_neg e
theorem XM {ms:List Nat}{k l:Nat}(e:ms.all (Nat.blt · 15)=true)(kn:k<H.n)(c:Ch h ms (L.lo k) l):BJ h H L l:=by
  rcases c with q | ⟨m,q1,q2⟩
  · exact .inr (.inl ⟨k,kn,q⟩)
  · exact .inl (q2▸⟨Nat.le_add_right h m,Nat.add_le_add_left (Nat.le_of_lt_succ (Nat.le_of_ble_eq_true (List.all_eq_true.mp e m (List.mem_of_elem_eq_true q1)))) h⟩)
theorem SF {α:Type}{xs ys:List α}{x y:α}(h:xs.length≤ys.length):(xs ++ [x]).length≤(ys ++ [y]).length:=by rw[List.length_append,List.length_append]; exact Nat.add_le_add_right h 1
theorem Pp (A:HeapAt σ h H L)(hn:H.n≤40)(he:H.ed.length+2<lim)(hA:∀c,(H.A c).length≤100)(hw:H.wt.length+100<lim){a b:Nat}{x:SV}(ha:a<H.n)(hb:b<H.n):
    ∃v σ' L',GN [.loc h,.int (a:Int),.int (b:Int),x] σ=some (.bool v,σ')∧HeapAt σ' h (C8 H a b x) L'∧Step h H L σ (C8 H a b x) L' σ':=by
  have he':H.ed.length<lim:=Nat.lt_of_le_of_lt (Nat.le_add_right _ 2) he
  have A1:=A.edges_only (x:=Du a b x)
  by_cases e:H.r a=H.r b
  · obtain⟨t,ht⟩:=V0 A1 hn ha hb e
    have eH:C8 H a b x={ H with ed:=H.ed ++ [Du a b x] }:=if_pos e
    have K:Kp (fun l=>l=h+10) σ (σ.set (h+10) (.list (H.ed ++ [Du a b x]))++t):=(Kp.set (D:=fun l=>l=h+10) .refl rfl).app
    exact⟨false,_,L,BF rfl (Dk (CY (Bd rfl A.inst rfl) A.edges rfl A.edges he') rfl (CT (AG (Bd rfl A1.inst rfl) A1.unions rfl rfl ht) (Jj (FG rfl (BC rfl))))),eH▸A1.app t,
      eH▸⟨K.len,fun l hl ho=>⟨K.keep l hl fun q=>ho (.inl (q▸⟨Nat.le_add_right ..,Nat.add_le_add_left (by decide) h⟩)),ho⟩⟩⟩
  · rw[U5 e]
    have T:=XK A ha hb e
    generalize min (H.r a) (H.r b)=k at *
    generalize max (H.r a) (H.r b)=g at *
    obtain⟨p,hp,hpp⟩:=A.par
    obtain⟨xs,hx,fx⟩:=A.lot _ T.kn
    obtain⟨ys,hy,fy⟩:=A.lot _ T.gn
    have fx:=fx T.kr; have fy:=fy T.gr
    have lk:=A.lrange k T.kn
    have rak:=A.arange k T.kn T.kr; have rag:=A.arange g T.gn T.gr
    have small:∀{zs:List Nat} {c:Nat},zs.Nodup∧(∀u,u∈zs↔u<H.n∧H.r u=c)→zs.length≤40:=
      fun hz=>Nat.le_trans (BX H.n _ hz.1 fun u hu=>((hz.2 u).mp hu).1) hn
    obtain⟨ms,hms,hml⟩:=A.merged
    obtain⟨σ2,hm,M⟩:=V1 A1 hn ha hb (k:=k) (g:=g) ⟨T.so,T.kn,T.gn,T.kg,T.kr,T.gr⟩ (sn hms (hne rfl)) (Nat.lt_of_le_of_lt hml he') (sn hp (hne rfl)) (sn hx (Cn lk rfl)) (sn hy (Cn (A.lrange g T.gn) rfl)) (AL (Nat.le_trans (Nat.add_le_add (small fx) (small fy)) (by decide)))
    obtain⟨kvs,ver,hab,ab⟩:=A.above
    obtain⟨hall,hnd,hlen,hlk⟩:=ab
    have hlkk:kvs.lookup (.int (k:Int))=some (.loc (L.al k)):=(hlk k).trans (if_pos ⟨T.kn,T.kr⟩)
    have hlkg:kvs.lookup (.int (g:Int))=some (.loc (L.al g)):=(hlk g).trans (if_pos ⟨T.gn,T.gr⟩)
    obtain⟨fs,hfs,hfl⟩:=A.forest
    have K2:Kp (Ch h [7,9,10] (L.lo k)) σ σ2:=(Kp.refl.set (JO rfl)).trans (M.keep.mono (SE rfl))
    have t:∀{m o},σ[h+m]? =some o→Gp [7,9,10] m=true→σ2[h+m]? =some o:=fun e q=>K2.get e (Rf lk q)
    have I:=t (m:=0) A.inst rfl
    have E:=M.keep.get (AD (o:= .list (H.ed ++ [Du a b x])) A.edges) (Rf lk rfl)
    have F:=t hfs rfl
    have B:=t hab rfl
    have W:=t A.waiting rfl
    have hK:=K2.get (A.abv k T.kn T.kr) (Lk rfl rak fun q=>A.la k k T.kn T.kn T.kr q.symm)
    have hG:=K2.get (A.abv g T.gn T.gr) (Lk rfl rag fun q=>A.la k g T.kn T.gn T.gr q.symm)
    have I1:=fun x=>sn (x:=x) I (VT (n:=11) rfl).symm
    have I2:=fun x y=>sn (x:=y) (I1 x) (VT (n:=14) rfl).symm
    have I3:=fun x y z=>sn (x:=z) (I2 x y) (VT (n:=13) rfl).symm
    have B2:=fun x y=>sn (x:=y) (sn (x:=x) B (hne (m:=11) rfl)) (hne (m:=14) rfl)
    have l1:∀c,(Aj (H.A c)).length≤100:=fun c=>(Bh (ks:=H.A c)).symm▸hA c
    have kff:=C7 (k:= .int (k:Int)) rfl hall
    have kfg:=C7 (k:= .int (g:Int)) rfl hall
    have sets3:=fun x y z=>(((K2.mono (SE (ns:= [7,9,10,11,13,14]) rfl)).set (x:=x) (JO (m:=11) rfl)).set (x:=y) (JO (m:=14) rfl)).set (x:=z) (JO (m:=13) rfl)
    have sets:=fun x y z t w=>((sets3 x y z).app (t:=t)).set (x:=w) (JO (m:=13) rfl)
    have ff:=fun x y z t=>AE (σ:=((σ2.set (h+11) x).set (h+14) y).set (h+13) z) (o:=t)
    refine⟨true,_,_,BF rfl (Dk (CY (Bd rfl A.inst rfl) A.edges rfl A.edges he') rfl (CT (AG (Bd rfl A1.inst rfl) A1.unions rfl rfl hm)
      (Bf (DY rfl rfl) (Bf (Go rfl rfl)
      (Dk (CY (Bd rfl I rfl) F (FH (Dt (Bd rfl I rfl) E rfl) rfl rfl) F (Nat.lt_of_le_of_lt hfl he')) rfl
      (Dk (Rc (Bd rfl (I1 _) rfl) (sn W (hne rfl)) (Fj (Bd rfl (I1 _) rfl) rfl (sn B (hne rfl)) kfg hlkg) (sn W (hne rfl)) (sn hG (Cn rag rfl)) ⟨Cn rag rfl,Nat.lt_of_le_of_lt (Nat.add_le_add (Nat.le_of_eq Bh) (l1 g)) hw⟩) rfl
      (Bf (KO (NE (Fj (Bd rfl (I2 _ _) rfl) rfl (B2 _ _) kff hlkk) (Xy (Bd rfl (I2 _ _) rfl) ⟨_,_,B2 _ _⟩ rfl (B2 _ _) hall hlkg)
          (sn (sn (sn hK (Cn rak rfl)) (Cn rak rfl)) (Cn rak rfl)) (sn (sn (sn hG (Cn rag rfl)) (Cn rag rfl)) (Cn rag rfl)) (AL (Nat.le_trans (Nat.add_le_add (l1 k) (l1 g)) (by decide))))
        (Bd rfl (Ae (I3 _ _ _)) rfl) rfl (Ae (AD (B2 _ _))) (Ez (C7 rfl (LR hall)) (AL (Nat.le_trans dictDel_length (Nat.le_trans hlen (Nat.le_trans hn (by decide)))))))
      (BC rfl)))))))),
      A.joined (fr:=_) T hpp fx fy ⟨hall,hnd,hlen,hlk⟩ (sets3 _ _ _).len (sets _ _ _ _ _) (sn (Ae (sn (sn (sn M.par (hne rfl)) (hne rfl)) (hne rfl))) (hne rfl)) (sn (Ae (sn (sn (sn M.lot (Cn lk rfl)) (Cn lk rfl)) (Cn lk rfl))) (Cn lk rfl))
        (M.mrg.elim fun y q=>⟨_,sn (Ae (sn (sn (sn q (hne rfl)) (hne rfl)) (hne rfl))) (hne rfl),SF hml⟩) (sn (Ae (sn (sn (sn E (hne rfl)) (hne rfl)) (hne rfl))) (hne rfl))
        ⟨_,sn (Ae (sn (sn (AD F) (hne rfl)) (hne rfl))) (hne rfl),SF hfl⟩ ⟨_,AD (Ae (AD (B2 _ _)))⟩
        ((sn (Ae (sn (AD (sn W (hne rfl))) (hne rfl))) (hne rfl)).trans (congrArg (fun x=>some (SObj.list x)) IL.symm))
        ((sn (ff _ _ _ _) (Nat.ne_of_lt (AN (AD (B2 _ _))))).trans (congrArg (fun x=>some (SObj.list x)) IL.symm)),⟨(sets _ _ _ _ _).len,fun l hl ho=>⟨(sets _ _ _ _ _).keep l hl fun c=>ho (XM rfl T.kn c),fun o=>?_⟩⟩⟩
    rcases o with o | o | ⟨c,hc,hr,o⟩
    · exact ho (.inl o)
    · exact ho (.inr (.inl o))
    · replace o:l=if c=k then _ else L.al c:=o
      by_cases q:c=k
      · rw[if_pos q] at o
        exact Nat.ne_of_lt (Nat.lt_of_lt_of_le hl (sets3 _ _ _).len) o
      · rw[if_neg q] at o
        exact ho (.inr (.inr ⟨c,hc,((Po T.kr T.kg).mp hr).1,o⟩))
end Mine.P
namespace Mine.P
open scoped Classical
variable {σ σ':Hp}{h:Nat}{H:AH}{L:Lc}
noncomputable def KV:SV:= .tup [.str "like"]
noncomputable def EA (H:AH)(i:Nat):AH:=
  match H.K (BD H i) with
  | some m=>if H.r m=H.r i then H else C8 H m i KV
  | none=>{ H with K:=fun y=>if y=BD H i then some i else H.K y,kn:=H.kn+1 }
theorem OF {m:Nat}(e:Nat.ble m 14=true):BJ h H L (h+m):= .inl ⟨Nat.le_add_right ..,Nat.add_le_add_left (Nat.le_of_ble_eq_true e) h⟩
theorem Pq (A:HeapAt σ h H L)(hn:H.n≤40)(he:H.ed.length+2<lim)(hA:∀c,(H.A c).length≤100)(hw:H.wt.length+100<lim)(hk:H.kn<lim)(hK:∀x m,H.K x=some m→m<H.n)
    {i:Nat} (hi:i<H.n) (h2:(H.nd i).2.length≤2) (hlt:∀k,k∈(H.nd i).2→k<H.n):
    ∃σ' L',Ef [.loc h,.int (i:Int)] σ=some (.none,σ')∧HeapAt σ' h (EA H i) L'∧Step h H L σ (EA H i) L' σ':=by
  obtain⟨kvs,ver,hd,ok⟩:=A.known
  have N:=U4 A hn hi h2 hlt
  have A1:=A.app [SObj.list (Aj (BD H i).2)]
  have S1:Step h H L σ H L (σ ++ [SObj.list (Aj (BD H i).2)]):=Step.app
  have hd1:=Ae (t:= [SObj.list (Aj (BD H i).2)]) hd
  generalize σ ++ [SObj.list (Aj (BD H i).2)]=σ1 at *
  have ds:=Ez (k:=Cz (BD H i)) (v:= .int (i:Int)) (kvs:=kvs) (D8 H7 ok.1) (Nat.lt_of_le_of_lt ok.2.1 hk)
  have lk:=ok.2.2 (BD H i)
  have nd:AB "Heap" "node" Fr (Ab "self") [(Ab "n")] [("self",.loc h),("n",.int i)] σ=some (Cz (BD H i),σ1):=AG rfl A.inst rfl rfl N
  have sd:∀{p},_→GL (Aq "Heap" (Ab "self") "known") (AB "Heap" "node" Fr (Ab "self") [(Ab "n")]) (Ab "n") [("self",.loc h),("n",.int i)] σ=some p:=XF (Bd rfl A.inst rfl) hd nd rfl H7 hd1 ds
  unfold EA
  cases hKi:H.K (BD H i) with
  | none=>
    rw[hKi] at lk
    have A2:=A1.known_upd (x:=BD H i) (m:=i) (ver':=ver+1) hd1 ok
    exact⟨_,L,GX rfl (CT (sd (.inr ⟨lk,rfl⟩)) (DY (Bq (AG rfl A2.inst rfl rfl (DZ A2 hn hi)) (AG rfl A2.inst rfl rfl (DZ A2 hn hi)) (Ir rfl)) rfl)),A2,
      S1.trans ⟨by rw[List.length_set]; exact Nat.le_refl _,fun l hl ho=>⟨Fk fun q=>ho (q▸OF rfl),ho⟩⟩⟩
  | some m=>
    rw[hKi] at lk
    have hm:=hK _ _ hKi
    have T:∀{b},_→AJ (AM .ne (AB "Heap" "find" Bu (Ab "self") [(Ab "other")]) (AB "Heap" "find" Bu (Ab "self") [(Ab "n")])) (Rho.put [("self",.loc h),("n",.int i)] "other" (.int m)) σ1=some (b,σ1):=
      Bq (AG rfl A1.inst rfl rfl (DZ A1 hn hm)) (AG rfl A1.inst rfl rfl (DZ A1 hn hi))
    show ∃σ' L',_∧HeapAt σ' h (if H.r m=H.r i then H else C8 H m i KV) L'∧Step h H L σ (if H.r m=H.r i then H else C8 H m i KV) L' σ'
    by_cases e:H.r m=H.r i
    · rw[if_pos e]
      exact⟨σ1,L,GX rfl (CT (sd (.inl ⟨_,lk,rfl⟩)) (DY (T (Ir (congrArg _ e))) rfl)),A1,S1⟩
    · rw[if_neg e]
      obtain⟨v,σ2,L2,e2,A2,S2⟩:=Pp A1 hn he hA hw (x:=KV) hm hi
      exact⟨σ2,L2,GX rfl (CT (sd (.inl ⟨_,lk,rfl⟩)) (FG (T (Qd (Dm e))) (Ek (AG rfl A1.inst rfl rfl e2) rfl))),A2,S1.trans S2⟩
end Mine.P
namespace Mine.P
open scoped Classical
variable {σ σ':Hp}{h:Nat}{H:AH}{L:Lc}
noncomputable def D9 (H:AH)(x:Nd)(t:SV):AH:={ H with n:=H.n+1,nd:=fun i=>if i=H.n then x else H.nd i,tm:=fun i=>if i=H.n then t else H.tm i,A:=fun c=>if c=H.n then [] else H.A c }
theorem WO {n:Nat}{ps ls:List SV}(U:σ[h+6]? =some (.inst "Unions" [("above",.loc (h+7)),("lots",.loc (h+8)),("merged",.loc (h+9))]))(h7:σ[h+7]? =some (.list ps))(h8:σ[h+8]? =some (.list ls))
    (lp:ps.length=n) (ll:ls.length=n) (hn:n<lim):
    ∃σ' fl,Hi [.loc (h+6)] σ=some (.int (n:Int),σ')∧Kp (fun l=>∃m, [7,8].elem m=true∧l=h+m) σ σ'∧σ'[h+7]? =some (SObj.list (ps ++ [SV.int (n:Int)]))∧σ'[h+8]? =some (SObj.list (ls ++ [SV.loc fl]))∧
      σ'[fl]? =some (SObj.list [SV.int (n:Int)])∧σ.length=fl∧fl<σ'.length:=
  have U1:=fun x=>sn (x:=x) U (hne (m:=7) (n:=6) rfl)
  have b8:=AN (sn (x:=SObj.list (ps ++ [SV.int (n:Int)])) h8 (hne (m:=7) (n:=8) rfl))
  ⟨_,_,BF rfl (Dk (CY (Bd rfl U rfl) h7 (Dt (Bd rfl U rfl) h7 lp) h7 (lp.symm▸hn)) rfl
    (Dk (CY (Bd rfl (U1 _) rfl) (sn h8 (hne rfl)) (Ji (AA (Dt (Bd rfl (U1 _) rfl) (sn h8 (hne rfl)) ll) rfl)) (Ae (sn h8 (hne rfl))) (ll.symm▸hn)) rfl
    (BC (FH (Dt (Bd rfl (sn (Ae (U1 _)) (hne rfl)) rfl) (sn (Ae (AD h7)) (hne rfl)) (List.length_append.trans (congrArg (· + 1) lp))) rfl (congrArg some (show((n+1:Nat):Int)-1=n from Int.add_sub_cancel (n:Int) 1)))))),
    ((Kp.refl.set ⟨7,rfl,rfl⟩).app).set ⟨8,rfl,rfl⟩,sn (Ae (AD h7)) (hne rfl),AD (Ae (sn h8 (hne rfl))),sn AE (Nat.ne_of_lt b8),List.length_set.symm,by rw[List.length_set,List.length_set,List.length_append,List.length_set]; exact Nat.lt_succ_self _⟩
theorem SG (A:HeapAt σ h H L){j:Nat}{op:String}{ks:List Nat}(hk:ks.length≤2)(hn:H.n≤40)(hj:j<H.n)(e:H.nd j=(op,ks))(inj:∀i,i<H.n→H.nd i=H.nd j→i=j):
    DS [.loc h,.str op,.tup (Aj ks)] σ=some (.int (j:Int),σ):=
  BF rfl (CT (AG (Bd rfl A.inst rfl) A.bank rfl rfl (VW A hk hn hj e inj)) (Jj (FG (Bq rfl (AG (Bd rfl A.inst rfl) A.unions rfl rfl (WN A)) (congrArg some (decide_eq_true (Int.ofNat_lt.mpr hj)))) (BC rfl))))
theorem CE {n i:Nat}(hi:i<n+1)(q:i≠n):i<n:=Nat.lt_of_le_of_ne (Nat.le_of_lt_succ hi) q
theorem mid {b:Nat}(h:Gp [2,3,4,5,7,8,13] b=true):¬ (2≤b∧b≤5)∧Gp [7,8,13] b=true:=by
  have:∀b,b<15→Gp [2,3,4,5,7,8,13] b=true→¬ (2≤b∧b≤5)∧Gp [7,8,13] b=true:=by decide
  exact this b (Nat.le_of_ble_eq_true (Iv h).1) h
theorem HeapAt.add_start (A:HeapAt σ h H L){x:Nd}{t:SV}{σ1 σ':Hp}(T:TakeR σ h H.n (fun i=>if i=H.n then x else H.nd i) σ1)(hr:H.r H.n=H.n)(hrl:∀i,i<H.n→H.r i<H.n){p:Nat→Nat}
    (hpp:∀i,i<H.n→p i≤i∧H.r (p i)=H.r i∧(p i=i→H.r i=i)) {kvs:List (SV×SV)}
    (ab:kvs.all (fun x=>x.1.isInt)=true∧(kvs.map (·.1)).Nodup∧kvs.length≤H.n∧∀c:Nat,kvs.lookup (.int (c:Int))=if c<H.n∧H.r c=c then some (.loc (L.al c)) else none)
    {fl fa:Nat} (gl:σ.length≤fl) (ga:σ.length≤fa) (gg:fl≠fa)
    (K:Kp (fun l=>∃m, [7,8,13].elem m=true∧l=h+m) σ1 σ')
    (f7:σ'[h+7]? =some (.list ((rng H.n fun i=> .int (p i:Int)) ++ [.int (H.n:Int)]))) (f8:σ'[h+8]? =some (.list ((rng H.n fun i=> .loc (L.lo i)) ++ [.loc fl]))) (fl':σ'[fl]? =some (.list [.int (H.n:Int)]))
    (f13:∃v,σ'[h+13]? =some (.dict (AW kvs (.int (H.n:Int)) (.loc fa)) v)) (fa':σ'[fa]? =some (.list [])):
    HeapAt σ' h (D9 H x t) { lo:=fun i=>if i=H.n then fl else L.lo i,al:=fun c=>if c=H.n then fa else L.al c }:=by
  have u:∀{m o},σ1[h+m]? =some o→Gp [7,8,13] m=true→σ'[h+m]? =some o:=fun e q=>K.get e fun w=>w.elim fun _ w=>NL q w.1 w.2.symm
  have t':∀{m o},σ[h+m]? =some o→Gp [2,3,4,5,7,8,13] m=true→σ'[h+m]? =some o:=fun {m o} e q=>
    u ((T.keep _ (AN e) fun w=>(mid q).1 ⟨Nat.le_of_add_le_add_left w.1,Nat.le_of_add_le_add_left w.2⟩).trans e) (mid q).2
  have v:∀{l o},σ[l]? =some o→h+15≤l→σ'[l]? =some o:=fun e q=>K.get ((T.keep _ (AN e) fun w=>absurd w.2 (Nat.not_le_of_lt (Nat.lt_of_lt_of_le (Nat.add_lt_add_left (by decide) h) q))).trans e)
    fun w=>w.elim fun _ w=>Cn q (List.all_eq_true.mp (show [7,8,13].all (Nat.blt · 15)=true from rfl) _ (List.mem_of_elem_eq_true w.1)) w.2.symm
  obtain⟨hall,hnd,hlen,hlk⟩:=ab
  have hlo:∀{i},i<H.n→L.lo i<σ.length:=fun hi=>(A.lot _ hi).elim fun _ e=>AN e.1
  have hal:∀{c},c<H.n→H.r c=c→L.al c<σ.length:=fun hc hr=>AN (A.abv _ hc hr)
  have hL:=A.len
  constructor
  case inst=>exact t' (m:=0) A.inst rfl
  case bank=>exact t' A.bank rfl
  case unions=>exact t' A.unions rfl
  case nodes=>exact u T.nodes rfl
  case numbers=>exact T.numbers.imp fun v e=>u e rfl
  case weights=>exact T.weights.imp fun v e=>u e rfl
  case depths=>exact T.depths.imp fun v e=>u e rfl
  case merged=>exact A.merged.imp fun v e=>⟨t' e.1 rfl,e.2⟩
  case edges=>exact t' A.edges rfl
  case forest=>exact A.forest.imp fun v e=>⟨t' e.1 rfl,e.2⟩
  case known=>exact A.known.imp fun v e=>e.imp fun w e=>⟨t' e.1 rfl,e.2⟩
  case waiting=>exact t' A.waiting rfl
  case par=>
    refine⟨fun i=>if i=H.n then H.n else p i,f7.trans (congrArg (fun x=>some (SObj.list x)) (FP (g:=fun i=>SV.int ((if i=H.n then H.n else p i:Nat):Int)) (fun i hi=>by rw[if_neg (Nat.ne_of_lt hi)]) (by rw[if_pos rfl]))),fun i hi=>?_⟩
    show(if i=H.n then H.n else p i)≤i∧H.r (if i=H.n then H.n else p i)=H.r i∧((if i=H.n then H.n else p i)=i→H.r i=i)
    by_cases q:i=H.n
    · rw[if_pos q,q]; exact⟨Nat.le_refl _,rfl,fun _=>hr⟩
    · rw[if_neg q]; exact hpp i (CE hi q)
  case lots=>exact f8.trans (congrArg (fun x=>some (SObj.list x)) (FP (g:=fun i=>SV.loc (if i=H.n then fl else L.lo i)) (fun i hi=>by rw[if_neg (Nat.ne_of_lt hi)]) (by rw[if_pos rfl])))
  case lot=>
    intro i hi
    show ∃xs,σ'[if i=H.n then fl else L.lo i]? =some (.list (Aj xs))∧(H.r i=i→xs.Nodup∧∀x,x∈xs↔x<H.n+1∧H.r x=i)
    by_cases q:i=H.n
    · rw[if_pos q]; subst q
      refine⟨[H.n],fl',fun _=>⟨List.nodup_cons.mpr ⟨List.not_mem_nil,List.nodup_nil⟩,fun y=>List.mem_singleton.trans ⟨fun e=>⟨Nat.lt_succ_of_le (Nat.le_of_eq e),(congrArg H.r e).trans hr⟩,fun w=>?_⟩⟩⟩
      by_cases q:y=H.n
      · exact q
      · exact absurd w.2 (Nat.ne_of_lt (hrl y (CE w.1 q)))
    · rw[if_neg q]
      have hi:=CE hi q
      refine(A.lot i hi).imp fun xs e=>⟨v e.1 (A.lrange i hi),fun w=>⟨(e.2 w).1,fun y=>((e.2 w).2 y).trans ⟨fun a=>⟨Nat.lt_succ_of_lt a.1,a.2⟩,fun a=>⟨CE a.1 fun q2=>?_,a.2⟩⟩⟩⟩
      exact q (a.2.symm.trans (q2▸hr))
  case above=>
    obtain⟨v,e⟩:=f13
    refine⟨_,v,e,Fy rfl hall,Hl hnd,Nat.le_trans dictPut_length (Nat.add_le_add_right hlen 1),fun c=>?_⟩
    show _=if c<H.n+1∧H.r c=c then some (SV.loc (if c=H.n then fa else L.al c)) else none
    rw[El,hlk]
    by_cases q:c=H.n
    · subst q; rw[if_pos rfl,if_pos ⟨Nat.lt_succ_self _,hr⟩,if_pos rfl]
    · rw[if_neg fun w=>Dm q (SV.int.inj w),if_neg q]
      exact ite_congr (propext (and_congr_left fun _=>⟨Nat.lt_succ_of_lt,fun w=>CE w q⟩)) (fun _=>rfl) fun _=>rfl
  case abv=>
    intro c hc hr'
    show σ'[if c=H.n then fa else L.al c]? =some (.list (Aj (if c=H.n then [] else H.A c)))
    by_cases q:c=H.n
    · rw[if_pos q,if_pos q]; exact fa'
    · rw[if_neg q,if_neg q]
      exact v (A.abv c (CE hc q) hr') (A.arange c (CE hc q) hr')
  case lrange=>
    intro i hi
    show h+15≤if i=H.n then fl else L.lo i
    by_cases q:i=H.n
    · rw[if_pos q]; exact Nat.le_trans hL gl
    · rw[if_neg q]; exact A.lrange i (CE hi q)
  case arange=>
    intro i hi hr'
    show h+15≤if i=H.n then fa else L.al i
    by_cases q:i=H.n
    · rw[if_pos q]; exact Nat.le_trans hL ga
    · rw[if_neg q]; exact A.arange i (CE hi q) hr'
  case linj=>
    intro i j hi hj
    show(if i=H.n then fl else L.lo i)=(if j=H.n then fl else L.lo j)→i=j
    by_cases q:i=H.n
    · by_cases q2:j=H.n
      · exact fun _=>q.trans q2.symm
      · rw[if_pos q,if_neg q2]; exact fun w=>absurd w.symm (Nat.ne_of_lt (Nat.lt_of_lt_of_le (hlo (CE hj q2)) gl))
    · by_cases q2:j=H.n
      · rw[if_neg q,if_pos q2]; exact fun w=>absurd w (Nat.ne_of_lt (Nat.lt_of_lt_of_le (hlo (CE hi q)) gl))
      · rw[if_neg q,if_neg q2]; exact A.linj i j (CE hi q) (CE hj q2)
  case ainj=>
    intro i j hi hj ri rj
    show(if i=H.n then fa else L.al i)=(if j=H.n then fa else L.al j)→i=j
    by_cases q:i=H.n
    · by_cases q2:j=H.n
      · exact fun _=>q.trans q2.symm
      · rw[if_pos q,if_neg q2]; exact fun w=>absurd w.symm (Nat.ne_of_lt (Nat.lt_of_lt_of_le (hal (CE hj q2) rj) ga))
    · by_cases q2:j=H.n
      · rw[if_neg q,if_pos q2]; exact fun w=>absurd w (Nat.ne_of_lt (Nat.lt_of_lt_of_le (hal (CE hi q) ri) ga))
      · rw[if_neg q,if_neg q2]; exact A.ainj i j (CE hi q) (CE hj q2) ri rj
  case la=>
    intro i c hi hc rc
    show(if i=H.n then fl else L.lo i)≠if c=H.n then fa else L.al c
    by_cases q:i=H.n
    · by_cases q2:c=H.n
      · rw[if_pos q,if_pos q2]; exact gg
      · rw[if_pos q,if_neg q2]; exact fun w=>Nat.ne_of_lt (Nat.lt_of_lt_of_le (hal (CE hc q2) rc) gl) w.symm
    · by_cases q2:c=H.n
      · rw[if_neg q,if_pos q2]; exact Nat.ne_of_lt (Nat.lt_of_lt_of_le (hlo (CE hi q)) ga)
      · rw[if_neg q,if_neg q2]; exact A.la i c (CE hi q) (CE hc q2) rc
theorem V2 (A:HeapAt σ h H L)(hn:H.n≤40)(hA:∀c,(H.A c).length≤96){n l:Nat}{S:List SV}(hl:σ[l]? =some (.list S))(ho:¬ BJ h H L l)(hS:∀v,v∈S→∃c:Nat,v= .int (c:Int)∧c<H.n∧H.r c=c)(h2:S.length≤2)
    {ρ:Rho} (hs:ρ.lookup "self" =some (.loc h)) (hnn:ρ.lookup "n" =some (.int (n:Int))):
    ∃ρ' σ' Af,FX (.name "c") (some (l,.list S)) (Bl (B6 (Ap (Aq "Heap" (Ab "self") "above") (Ab "c")) (Ab "n"))) S ρ σ=some (.next,ρ',σ')∧HeapAt σ' h { H with A:=Af } L∧Step h H L σ { H with A:=Af } L σ'∧
      ρ'.lookup "self" =some (.loc h)∧ρ'.lookup "n" =some (.int (n:Int))∧(∀c x,x∈H.A c→x∈Af c)∧(∀c x,x∈Af c→x∈H.A c∨x=n)∧(∀c:Nat,SV.int (c:Int)∈S→n∈Af c)∧sm H.n (fun c=>(Af c).length)≤sm H.n (fun c=>(H.A c).length)+2∧(∀c,(Af c).length≤(H.A c).length+2):=by
  obtain⟨ρ',σ',g1,Af,g2,g3,g4,g5,g6,g7,g8,g9,g10,g11⟩:=CC (tgt:= .name "c") (chk:=some (l,.list S)) (body:=Bl (B6 (Ap (Aq "Heap" (Ab "self") "above") (Ab "c")) (Ab "n")))
    (fun xs ρ' τ=>∃Af,HeapAt τ h { H with A:=Af } L∧Step h H L σ { H with A:=Af } L τ∧ρ'.lookup "self" =some (.loc h)∧ρ'.lookup "n" =some (.int (n:Int))∧
      (∀c x,x∈H.A c→x∈Af c)∧(∀c x,x∈Af c→x∈H.A c∨x=n)∧(∀c:Nat,SV.int (c:Int)∈S→SV.int (c:Int)∈xs∨n∈Af c)∧sm H.n (fun c=>(Af c).length)+xs.length≤sm H.n (fun c=>(H.A c).length)+S.length∧(∀c,(Af c).length+xs.length≤(H.A c).length+S.length)∧∀v,v∈xs→v∈S)
    (fun xs ρ' τ I=>I.elim fun Af I=>decide_eq_true ((I.2.1.keep l (AN hl) ho).1.trans hl)) (by
      intro x xs ρ' τ hrin; obtain⟨Af,g2,g3,g4,g5,g6,g7,g8,g9,g10,g11⟩:=hrin
      obtain⟨c,rfl,hc,hr⟩:=hS x (g11 x List.mem_cons_self)
      obtain⟨kvs,ver,hab,hall,hnd,hlen,hlk⟩:=g2.above
      have up:=g2.A_upd (c:=c) hc hr (w:=Af c ++ [n])
      have g4':(Rho.put ρ' "c" (.int c)).lookup "self" =some (.loc h):=Au g4 (by decide)
      have g5':(Rho.put ρ' "c" (.int c)).lookup "n" =some (.int n):=Au g5 (by decide)
      have it:Ap (Aq "Heap" (Ab "self") "above") (Ab "c") (Rho.put ρ' "c" (.int c)) τ=some (.loc (L.al c),τ):=Fj (Bd g4' g2.inst rfl) (Ao (x:= "c") AP) hab (C7 rfl hall) ((hlk c).trans (if_pos ⟨hc,hr⟩))
      have len:(Aj (Af c)).length<lim:=AL (by have:=g10 c; have:=hA c; rw[List.length_cons] at *; rw[Bh]; omega)
      refine⟨_,_,τ.set (L.al c) (.list (Aj (Af c ++ [n]))),rfl,Ek ((CY it (g2.abv c hc hr) (Ao g5') (g2.abv c hc hr) len).trans (by rw[Iu])) rfl,fun d=>if d=c then Af c ++ [n] else Af d,up,
        g3.trans ⟨by rw[List.length_set]; exact Nat.le_refl _,fun l hl ho=>⟨Fk fun q=>ho (.inr (.inr ⟨c,hc,hr,q.symm⟩)),ho⟩⟩,g4',g5',?_,?_,?_,?_,?_,fun v hv=>g11 v (List.mem_cons_of_mem _ hv)⟩
      · intro d x hx
        show x∈if d=c then Af c ++ [n] else Af d
        by_cases q:d=c
        · rw[if_pos q]; exact List.mem_append_left _ (q▸g6 d x hx)
        · rw[if_neg q]; exact g6 d x hx
      · intro d x hx
        replace hx:x∈if d=c then Af c ++ [n] else Af d:=hx
        by_cases q:d=c
        · rw[if_pos q] at hx
          exact(List.mem_append.mp hx).elim (fun w=>g7 d x (q▸w)) fun w=> .inr (List.mem_singleton.mp w)
        · rw[if_neg q] at hx; exact g7 d x hx
      · intro d hd
        show _∨n∈if d=c then Af c ++ [n] else Af d
        by_cases q:d=c
        · rw[if_pos q]; exact .inr (List.mem_append_right _ List.mem_cons_self)
        · rw[if_neg q]
          exact(g8 d hd).imp_left fun w=>(List.mem_cons.mp w).resolve_left fun w=>Dm q (SV.int.inj w)
      · have:=KP (f:=fun d=>(if d=c then Af c ++ [n] else Af d).length) (g:=fun d=>(Af d).length) (n:=H.n) (j:=c) hc fun i _ hne=>congrArg List.length (if_neg hne)
        replace this:sm H.n (fun d=>(if d=c then Af c ++ [n] else Af d).length)+(Af c).length=sm H.n (fun d=>(Af d).length)+(if c=c then Af c ++ [n] else Af c).length:=this
        rw[if_pos rfl,List.length_append] at this
        have e:sm H.n (fun d=>(if d=c then Af c ++ [n] else Af d).length)=sm H.n (fun d=>(Af d).length)+1:=Nat.add_right_cancel (this.trans ((Nat.add_left_comm ..).trans (Nat.add_comm ..)))
        exact Nat.le_trans (Nat.le_of_eq ((congrArg (· + xs.length) e).trans ((Nat.add_assoc ..).trans (congrArg _ (Nat.add_comm ..))))) g9
      · intro d
        have:=g10 d
        rw[List.length_cons] at this
        show(if d=c then Af c ++ [n] else Af d).length+_≤_
        by_cases q:d=c
        · rw[if_pos q, ←q,List.length_append,Nat.add_assoc,Nat.add_comm [n].length]; exact this
        · rw[if_neg q]; exact Nat.le_trans (Nat.add_le_add_left (Nat.le_succ _) _) this) S ρ σ ⟨H.A,A,Step.refl,hs,hnn,fun _ _ w=>w,fun _ _ w=> .inl w,fun _ w=> .inl w,Nat.le_refl _,fun _=>Nat.le_refl _,fun _ w=>w⟩
  exact⟨ρ',σ',Af,g1,g2,g3,g4,g5,g6,g7,fun c hc=>(g8 c hc).resolve_left List.not_mem_nil,Nat.le_trans g9 (Nat.add_le_add_left h2 _),fun c=>Nat.le_trans (g10 c) (Nat.add_le_add_left h2 _)⟩
end Mine.P
namespace Mine.P
open scoped Classical
variable {σ σ':Hp}{h:Nat}{H:AH}{L:Lc}
theorem WP {ρ:Rho}{σ1:Hp}{e:Ev}{l:Nat}{xs:List SV}(he:e ρ σ=some (.loc l,σ1))(hl:σ1[l]? =some (.list xs))(c:(xs.all SV.isInt&&decide (xs.length≤2))=true):
    Jr e ρ σ=some (.loc σ1.length,σ1 ++ [.list (AS (Cr xs))]):=Az he (Dh hl (if_pos c))
theorem U6 {x:Nd}{t:SV}{k:Nat}(hA:∀c,(H.A c).length≤k)(c:Nat):((D9 H x t).A c).length≤k:=by
  show(if c=H.n then [] else H.A c).length≤k
  by_cases q:c=H.n
  · rw[if_pos q]; exact Nat.zero_le _
  · rw[if_neg q]; exact hA c
theorem Rl (A:HeapAt σ h H L){op:String}{ks:List Nat}(t:SV)(hk:ks.length≤2)(hn:H.n<40)(ho:op∈OPS)(hlt:∀k,k∈ks→k<H.n)(fresh:∀i,i<H.n→H.nd i≠(op,ks))
    (hr:H.r H.n=H.n) (he:H.ed.length+2<lim) (hA:∀c,(H.A c).length≤96) (hw:H.wt.length+100<lim) (hkn:H.kn<lim) (hK:∀x m,H.K x=some m→m<H.n):
    ∃Af σ' L',DS [.loc h,.str op,.tup (Aj ks)] σ=some (.int (H.n:Int),σ')∧
      HeapAt σ' h (EA { D9 H (op,ks) t with A:=Af } H.n) L'∧Step h H L σ (EA { D9 H (op,ks) t with A:=Af } H.n) L' σ'∧
      (∀c x,x∈(D9 H (op,ks) t).A c→x∈Af c)∧(∀c x,x∈Af c→x∈(D9 H (op,ks) t).A c∨x=H.n)∧(∀k,k∈ks→H.n∈Af (H.r k))∧
      sm (H.n+1) (fun c=>(Af c).length)≤sm H.n (fun c=>(H.A c).length)+2∧(∀c,(Af c).length≤((D9 H (op,ks) t).A c).length+2):=by
  obtain⟨σ1,e1,T⟩:=VY A hk (Nat.le_of_lt hn) ho hlt fresh (nd':=fun i=>if i=H.n then(op,ks) else H.nd i) (fun i hi=>if_neg (Nat.ne_of_lt hi)) (if_pos rfl)
  obtain⟨p,hp,hpp⟩:=A.par
  obtain⟨kvs,ver,hab,ab⟩:=A.above
  have k1:∀{m o},σ[h+m]? =some o→¬ (2≤m∧m≤5)→σ1[h+m]? =some o:=fun e q=>(T.keep _ (AN e) fun w=>q ⟨Nat.le_of_add_le_add_left w.1,Nat.le_of_add_le_add_left w.2⟩).trans e
  have I1:=k1 (m:=0) A.inst (by decide)
  have U1:=k1 A.unions (by decide)
  have P1:=k1 hp (by decide)
  have sz:FA [.loc (h+6)] σ1=some (.int (H.n:Int),σ1):=BF rfl (BC (Dt (Bd rfl U1 rfl) P1 B8))
  obtain⟨σ2,fl,mk,K2,P2,O2,N2,efl,lfl⟩:=WO U1 P1 (k1 A.lots (by decide)) B8 B8 (AL (Nat.le_trans (Nat.le_of_lt hn) (by decide)))
  have l2:∀{m},([7,8,13].elem m=false)→¬ ∃k, [7,8,13].elem k=true∧h+m=h+k:=fun e q=>q.elim fun k q=>by
    rw[Nat.add_left_cancel q.2,q.1] at e; exact nomatch e
  have B2:σ2[h+13]? =_:=K2.get (k1 hab (by decide)) fun q=>q.elim fun k q=>by
    have:=Nat.add_left_cancel q.2
    subst this; exact nomatch q.1
  have I2:=K2.get I1 fun q=>q.elim fun k q=>by
    have:=Nat.add_left_cancel (m:=0) q.2
    subst this; exact nomatch q.1
  have ds:=Ez (k:= .int (H.n:Int)) (v:= .loc σ2.length) (kvs:=kvs) (C7 rfl ab.1) (AL (Nat.le_trans ab.2.2.1 (Nat.le_trans (Nat.le_of_lt hn) (by decide))))
  obtain⟨σ3,hσ3⟩:∃s,(σ2 ++ [SObj.list []]).set (h+13) (SObj.dict (AW kvs (.int (H.n:Int)) (.loc σ2.length)) (ver+1))=s:=⟨_,rfl⟩
  have K3:Kp (fun l=>∃m, [7,8,13].elem m=true∧l=h+m) σ1 σ3:=hσ3▸((K2.mono fun l w=>w.imp fun m w=>⟨by
    have:=List.mem_of_elem_eq_true w.1
    exact List.elem_eq_true_of_mem (List.mem_append_left [13] this),w.2⟩).app).set ⟨13,rfl,rfl⟩
  have g3:∀{l o},σ2[l]? =some o→h+13≠l→σ3[l]? =some o:=fun e q=>hσ3▸sn (Ae e) q
  obtain⟨L3,A3,S3⟩:∃L3,HeapAt σ3 h (D9 H (op,ks) t) L3∧Step h H L σ (D9 H (op,ks) t) L3 σ3:=by
    have ga:=Nat.le_trans T.len K2.len
    refine⟨_,A.add_start (x:=(op,ks)) (t:=t) T hr (fun i hi=>A.rlt hi) hpp ab (fl:=fl) (fa:=σ2.length) (efl▸T.len) ga (Nat.ne_of_lt lfl) K3 (g3 P2 (hne rfl)) (g3 O2 (hne rfl)) (g3 N2 (efl▸Nat.ne_of_lt (AN (k1 hab (by decide)))))
      ⟨ver+1,hσ3▸AD (Ae B2)⟩ (hσ3▸sn AE (Nat.ne_of_lt (AN B2))),Nat.le_trans T.len K3.len,fun l hl ho=>⟨?_,fun o=>?_⟩⟩
    · exact(K3.keep l (Nat.lt_of_lt_of_le hl T.len) fun w=>w.elim fun m w=>ho (w.2▸OF (List.all_eq_true.mp (show [7,8,13].all (Nat.ble · 14)=true from rfl) m (List.mem_of_elem_eq_true w.1)))).trans
        (T.keep l hl fun w=>ho (.inl ⟨Nat.le_trans (Nat.le_add_right ..) w.1,Nat.le_trans w.2 (Nat.add_le_add_left (by decide) h)⟩))
    · rcases o with o | ⟨i,hi,o⟩ | ⟨c,hc,hrc,o⟩
      · exact ho (.inl o)
      · replace o:l=if i=H.n then fl else L.lo i:=o
        by_cases q:i=H.n
        · rw[if_pos q] at o; exact Nat.ne_of_lt (Nat.lt_of_lt_of_le hl (efl▸T.len)) o
        · rw[if_neg q] at o; exact ho (.inr (.inl ⟨i,CE hi q,o⟩))
      · replace o:l=if c=H.n then σ2.length else L.al c:=o
        by_cases q:c=H.n
        · rw[if_pos q] at o; exact Nat.ne_of_lt (Nat.lt_of_lt_of_le hl ga) o
        · rw[if_neg q] at o; exact ho (.inr (.inr ⟨c,CE hc q,hrc,o⟩))
  have comp:=CJ (tgt:= .name "kid") (chk:=none) (elt:=AB "Heap" "find" Bu (Ab "self") [Ab "kid"]) (ρ:= [("self",.loc h)]) (σ:=σ3)
    (g:=fun x=>match x with | .int x=> .int (H.r x.toNat:Int) | v=>v) rfl (Aj ks) (by
      intro x hx
      obtain⟨k,hk,e⟩:=CZ.mp hx
      exact⟨_,rfl,e▸AG rfl A3.inst rfl rfl (DZ A3 (a:=k) hn (Nat.lt_succ_of_lt (hlt k hk)))⟩)
  have e:(Aj ks).map (fun x=>match x with | .int x=>SV.int (H.r x.toNat:Int) | v=>v)=Aj (ks.map H.r):=by rw[Aj,Aj,List.map_map,List.map_map]; rfl
  rw[e] at comp
  have hk2:(ks.map H.r).length≤2:=by rw[List.length_map]; exact hk
  have A4:=(A3.app [SObj.list (Aj (ks.map H.r))]).app [SObj.list (AS (Cr (Aj (ks.map H.r))))]
  have memS:∀v,v∈AS (Cr (Aj (ks.map H.r)))↔∃k,k∈ks∧v= .int (H.r k:Int):=by
    intro v
    rw[MC,KJ,CZ]
    exact⟨fun w=>w.elim fun c w=>(List.mem_map.mp w.1).elim fun k q=>⟨k,q.1,w.2.trans (q.2▸rfl)⟩,fun w=>w.elim fun k w=>⟨_,List.mem_map_of_mem w.1,w.2⟩⟩
  have lenS:(AS (Cr (Aj (ks.map H.r)))).length≤2:=by
    rw[R8]
    exact Nat.le_trans (KL (xs:=Aj (ks.map H.r))) (Bh.symm▸hk2)
  obtain⟨ρ5,σ5,Af,g1,A5,S5,g4,g5,g6,g7,g8,g9,g10⟩:=V2 A4 (n:=H.n) (S:=AS (Cr (Aj (ks.map H.r)))) hn (U6 hA) AE (fun o=>by have:=A3.high o; rw[List.length_append] at this; exact Nat.lt_irrefl _ (Nat.lt_trans (Nat.lt_succ_self _) this))
    (fun v hv=>((memS v).mp hv).elim fun k w=>⟨H.r k,w.2,Nat.lt_succ_of_lt (A.rlt (hlt k w.1)),(A.rle k (hlt k w.1)).2⟩) lenS
    (ρ:=Rho.put [("self",.loc h),("op",.str op),("numbers",.tup (Aj ks))] "n" (.int (H.n:Int))) rfl rfl
  have nn:{ D9 H (op,ks) t with A:=Af }.nd H.n=(op,ks):=if_pos rfl
  obtain⟨σ6,L6,e6,A6,S6⟩:=Pq A5 hn he (fun c=>Nat.le_trans (g10 c) (Nat.add_le_add (U6 hA c) (show 2≤4 by decide))) hw hkn (fun x m hx=>Nat.lt_succ_of_lt (hK x m hx)) (i:=H.n) (Nat.lt_succ_self _) (by rw[nn]; exact hk) (by rw[nn]; exact fun k hk=>Nat.lt_succ_of_lt (hlt k hk))
  refine⟨Af,σ6,L6,BF rfl (CT (AG (Bd rfl A.inst rfl) A.bank rfl rfl e1) (Bf (DY (Bq rfl (AG (Bd rfl I1 rfl) U1 rfl rfl sz) (congrArg some (decide_eq_false (Int.lt_irrefl _)))) rfl)
    (Dk (AG (Bd rfl I1 rfl) U1 rfl rfl mk) rfl (Bf ((KO rfl (Bd rfl (Ae I2) rfl) rfl (Ae B2) ds).trans (congrArg (fun s=>some (Flw.next,_,s)) hσ3))
    (Bf (FI (Cf (WP (Cy (Cf rfl (DP (En hk))) comp (En hk2)) AE ((Bool.and_eq_true_iff).mpr ⟨IM,decide_eq_true (Bh.symm▸hk2)⟩)) (D7 AE)) g1)
    (Dk (AG (Ao g4) A5.inst rfl (AA (Ao g5) rfl) e6) rfl (BC (Ao g5)))))))),A6,
    S3.trans (Step.app.trans (Step.app.trans (S5.trans S6))),g6,g7,fun k hk=>g8 _ ((memS _).mpr ⟨k,hk,rfl⟩),?_,g10⟩
  refine Nat.le_trans g9 (Nat.add_le_add_right (Nat.le_of_eq ?_) 2)
  show sm H.n (fun c=>(if c=H.n then [] else H.A c).length)+(if H.n=H.n then [] else H.A H.n).length=_
  rw[if_pos rfl]
  exact MF fun i hi=>by rw[if_neg (Nat.ne_of_lt hi)]
end Mine.P
namespace Mine.P
open scoped Classical
structure Cong (R:SV→SV→Prop) (S:SV→Prop):Prop where
  refl:∀x,R x x
  symm:∀{x y},R x y→R y x
  trans:∀{x y z},R x y→R y z→R x z
  cong:∀{f:String} {xs ys:List SV},S (.tup (.str f::xs))→S (.tup (.str f::ys))→xs.length=ys.length→(∀(t:Nat) (a b:SV),xs[t]? =some a→ys[t]? =some b→R a b)→R (.tup (.str f::xs)) (.tup (.str f::ys))
structure WF (H:AH) (td:Nat) (R:SV→SV→Prop) (S:SV→Prop) (X:Option Nat):Prop where
  kid:∀i,i<H.n→∀k,k∈(H.nd i).2→k<i
  two:∀i,i<H.n→(H.nd i).2.length≤2
  ops:∀i,i<H.n→(H.nd i).1∈OPS
  tmE:∀i,i<H.n→H.tm i= .tup (.str (H.nd i).1::(H.nd i).2.map H.tm)
  inj:∀i j,i<H.n→j<H.n→H.tm i=H.tm j→i=j
  inS:∀i,i<H.n→S (H.tm i)
  rle:∀i,H.r i≤i
  rr:∀i,H.r (H.r i)=H.r i
  rge:∀i,H.n≤i→H.r i=i
  up:∀i,i<H.n→∀k,k∈(H.nd i).2→i∈H.A (H.r k)
  upb:∀c x,x∈H.A c→x<H.n
  wb:∀x,x∈H.wt→x<H.n
  kb:∀x m,H.K x=some m→m<H.n
  ok:∀i,i<H.n→X≠some i→i∈H.wt∨∃m,H.K (BD H i)=some m∧H.r m=H.r i
  snd:∀i j,i<H.n→j<H.n→H.r i=H.r j→R (H.tm i) (H.tm j)
  ksnd:∀x m,H.K x=some m→x.1=(H.nd m).1∧x.2.length=(H.nd m).2.length∧∀(t c k:Nat),x.2[t]? =some c→(H.nd m).2[t]? =some k→c<H.n∧R (H.tm c) (H.tm k)
  asum:sm H.n (fun c=>(H.A c).length)≤2*H.n
  abd:∀c,(H.A c).length≤2*H.n
  nb:H.n≤40
  cnt:H.kn+H.wt.length+100*rts H.n H.r+(if X.isSome then 1 else 0)≤101*H.n
  edb:H.ed.length+rts H.n H.r≤td+H.n
  eok:∀e,e∈H.ed→∃d,∀σ,BV 9 σ e=some d
structure Le (H H':AH):Prop where
  n:H.n≤H'.n
  nd:∀i,i<H.n→H'.nd i=H.nd i
  tm:∀i,i<H.n→H'.tm i=H.tm i
  r:∀i j,i<H.n→j<H.n→H.r i=H.r j→H'.r i=H'.r j
theorem Le.refl {H:AH}:Le H H:=⟨Nat.le_refl _,fun _ _=>rfl,fun _ _=>rfl,fun _ _ _ _ e=>e⟩
theorem Le.trans {H H1 H2:AH}(a:Le H H1)(b:Le H1 H2):Le H H2:=
  ⟨Nat.le_trans a.n b.n,fun i hi=>(b.nd i (Nat.lt_of_lt_of_le hi a.n)).trans (a.nd i hi),fun i hi=>(b.tm i (Nat.lt_of_lt_of_le hi a.n)).trans (a.tm i hi),
   fun i j hi hj e=>b.r i j (Nat.lt_of_lt_of_le hi a.n) (Nat.lt_of_lt_of_le hj a.n) (a.r i j hi hj e)⟩
variable {H:AH}{td:Nat}{R:SV→SV→Prop}{S:SV→Prop}{X:Option Nat}
theorem WF.rlt (W:WF H td R S X){i:Nat}(hi:i<H.n):H.r i<H.n:=by have:=W.rle i; omega
theorem WF.kidn (W:WF H td R S X){i k:Nat}(hi:i<H.n)(hk:k∈(H.nd i).2):k<H.n:=by have:=W.kid i hi k hk; omega
theorem SH {a b:Nat}{x:SV}(hx:∃d,∀σ,BV 8 σ x=some d):∃d,∀σ,BV 9 σ (Du a b x)=some d:=by
  obtain⟨d,hd⟩:=hx
  refine⟨.tuple [.int a,.int b,d],fun σ=>?_⟩
  unfold Du
  exact congrArg (Option.map PySem.PyData.tuple) (CA Gr (CA Gr (CA (hd σ) Id)))
theorem Rn {n:Nat}{r:Nat→Nat}{k g:Nat}(hk:r k=k)(hg:r g=g)(kg:k<g)(gn:g<n):rts n (Bv r k g)+1=rts n r:=by
  have:=KP (f:=fun i=>if r i=i then 1 else 0) (g:=fun i=>if Bv r k g i=i then 1 else 0) (n:=n) (j:=g) gn fun i _ hne=>by
    unfold Bv
    by_cases q:r i=g
    · rw[if_pos q,if_neg (by omega)]
      by_cases q2:k=i
      · subst q2; omega
      · rw[if_neg q2]
    · rw[if_neg q]
  have e1:Bv r k g g=k:=by unfold Bv; rw[if_pos hg]
  rw[if_neg (by rw[e1]; omega),if_pos hg] at this
  unfold rts
  omega
theorem JQ (W:WF H td R S X)(a b:Nat):H.r (min (H.r a) (H.r b))=min (H.r a) (H.r b)∧H.r (max (H.r a) (H.r b))=max (H.r a) (H.r b):=by
  have ha:=W.rr a; have hb:=W.rr b
  rcases Nat.le_total (H.r a) (H.r b) with q | q
  · rw[Nat.min_eq_left q,Nat.max_eq_right q]; exact⟨ha,hb⟩
  · rw[Nat.min_eq_right q,Nat.max_eq_left q]; exact⟨hb,ha⟩
theorem MH {a b:Nat}{x:SV}(e:H.r a≠H.r b){k g:Nat}(hk:k=min (H.r a) (H.r b))(hg:g=max (H.r a) (H.r b)):
    C8 H a b x={ H with r:=Bv H.r k g,A:=fun c=>if c=k then H.A k++H.A g else if c=g then [] else H.A c,wt:=H.wt++H.A g,ed:=H.ed ++ [Du a b x] }:=by
  subst hk; subst hg; unfold C8; rw[if_neg e]
theorem SI (C:Cong R S)(W:WF H td R S X){a b:Nat}{x:SV}(ha:a<H.n)(hb:b<H.n)(e:H.r a≠H.r b)(hR:R (H.tm a) (H.tm b))(hx:∃d,∀σ,BV 8 σ x=some d):
    WF (C8 H a b x) td R S X∧Le H (C8 H a b x)∧(C8 H a b x).r a=(C8 H a b x).r b:=by
  obtain⟨kr,gr⟩:=JQ W a b
  have ra:=W.rlt ha; have rb:=W.rlt hb
  have kg:min (H.r a) (H.r b)<max (H.r a) (H.r b):=by omega
  have gn:max (H.r a) (H.r b)<H.n:=by omega
  have two:(H.r a=min (H.r a) (H.r b)∧H.r b=max (H.r a) (H.r b))∨(H.r a=max (H.r a) (H.r b)∧H.r b=min (H.r a) (H.r b)):=by omega
  rw[MH e rfl rfl]
  generalize min (H.r a) (H.r b)=k at *
  generalize max (H.r a) (H.r b)=g at *
  have rt:=Rn kr gr kg gn
  have jr:∀i,Bv H.r k g i=if H.r i=g then k else H.r i:=fun _=>rfl
  have hAg:sm H.n (fun c=>(if c=k then H.A k++H.A g else if c=g then [] else H.A c).length)=sm H.n (fun c=>(H.A c).length):=by
    have s1:=KP (f:=fun c=>(H.A c).length) (g:=fun c=>(if c=g then [] else H.A c).length) (n:=H.n) (j:=g) gn fun i _ hne=>by simp[hne]
    have s2:=KP (f:=fun c=>(if c=g then [] else H.A c).length) (g:=fun c=>(if c=k then H.A k++H.A g else if c=g then [] else H.A c).length) (n:=H.n) (j:=k) (by omega) fun i _ hne=>by simp[hne]
    have e1:k≠g:=by omega
    simp[e1] at s1 s2
    omega
  have abdg:(H.A k).length+(H.A g).length≤2*H.n:=by
    have:=Wf (f:=fun c=>(if c=k then H.A k++H.A g else if c=g then [] else H.A c).length) (n:=H.n) (j:=k) (by omega)
    rw[hAg] at this
    simp at this
    have:=W.asum; omega
  refine⟨?_,⟨Nat.le_refl _,fun _ _=>rfl,fun _ _=>rfl,fun i j _ _ q=>by show Bv H.r k g i=Bv H.r k g j; rw[jr,jr,q]⟩,?_⟩
  · constructor
    case kid=>exact W.kid
    case two=>exact W.two
    case ops=>exact W.ops
    case tmE=>exact W.tmE
    case inj=>exact W.inj
    case inS=>exact W.inS
    case rle=>
      intro i
      show Bv H.r k g i≤i
      rw[jr]; have:=W.rle i; split <;> omega
    case rr=>
      intro i
      show Bv H.r k g (Bv H.r k g i)=Bv H.r k g i
      rw[jr i]
      split
      · rw[jr,kr,if_neg (by omega)]
      · rename_i q; rw[jr,W.rr,if_neg q]
    case rge=>
      intro i hi
      show Bv H.r k g i=i
      have:=W.rge i hi
      rw[jr,this,if_neg (by have:H.n≤i:=hi; omega)]
    case up=>
      intro i hi c hc
      show i∈(if Bv H.r k g c=k then H.A k++H.A g else if Bv H.r k g c=g then [] else H.A (Bv H.r k g c))
      have:=W.up i hi c hc
      rw[jr]
      by_cases q:H.r c=g
      · rw[if_pos q,if_pos rfl]; rw[q] at this; exact List.mem_append_right _ this
      · rw[if_neg q]
        by_cases q2:H.r c=k
        · rw[if_pos q2]; rw[q2] at this; exact List.mem_append_left _ this
        · rw[if_neg q2,if_neg q]; exact this
    case upb=>
      intro c y hy
      dsimp only at hy
      split at hy
      · rcases List.mem_append.mp hy with w | w <;> exact W.upb _ _ w
      · split at hy
        · simp at hy
        · exact W.upb _ _ hy
    case wb=>
      intro y hy
      rcases List.mem_append.mp hy with w | w
      · exact W.wb _ w
      · exact W.upb _ _ w
    case kb=>exact W.kb
    case ok=>
      intro i hi hX
      show i∈H.wt++H.A g∨_
      rcases W.ok i hi hX with w | ⟨m,w1,w2⟩
      · exact .inl (List.mem_append_left _ w)
      · by_cases q:∃c,c∈(H.nd i).2∧H.r c=g
        · obtain⟨c,hc,hg⟩:=q
          have:=W.up i hi c hc
          rw[hg] at this
          exact .inl (List.mem_append_right _ this)
        · refine .inr ⟨m,?_,by show Bv H.r k g m=Bv H.r k g i; rw[jr,jr,w2]⟩
          have:BD { H with r:=Bv H.r k g,A:=fun c=>if c=k then H.A k++H.A g else if c=g then [] else H.A c,wt:=H.wt++H.A g,ed:=H.ed ++ [Du a b x] } i=BD H i:=by
            unfold BD
            dsimp only
            congr 1
            apply List.map_congr_left
            intro c hc
            rw[jr,if_neg fun w=>q ⟨c,hc,w⟩]
          rw[this]; exact w1
    case snd=>
      intro i j hi hj q
      have q:Bv H.r k g i=Bv H.r k g j:=q
      show R (H.tm i) (H.tm j)
      rw[jr,jr] at q
      have key:∀u v,u<H.n→v<H.n→H.r u=g→H.r v=k→R (H.tm u) (H.tm v):=by
        intro u v hu hv q1 q2
        rcases two with⟨t1,t2⟩ | ⟨t1,t2⟩
        · exact C.trans (W.snd u b hu hb (by omega)) (C.trans (C.symm hR) (W.snd a v ha hv (by omega)))
        · exact C.trans (W.snd u a hu ha (by omega)) (C.trans hR (W.snd b v hb hv (by omega)))
      by_cases q1:H.r i=g
      · rw[if_pos q1] at q
        by_cases q2:H.r j=g
        · exact W.snd i j hi hj (by omega)
        · rw[if_neg q2] at q; exact key i j hi hj q1 q.symm
      · rw[if_neg q1] at q
        by_cases q2:H.r j=g
        · rw[if_pos q2] at q; exact C.symm (key j i hj hi q2 q)
        · rw[if_neg q2] at q; exact W.snd i j hi hj q
    case ksnd=>exact W.ksnd
    case asum=>
      show sm H.n (fun c=>(if c=k then H.A k++H.A g else if c=g then [] else H.A c).length)≤2*H.n
      rw[hAg]; exact W.asum
    case abd=>
      intro c
      show(if c=k then H.A k++H.A g else if c=g then [] else H.A c).length≤2*H.n
      split
      · simp; omega
      · split
        · simp
        · exact W.abd c
    case nb=>exact W.nb
    case cnt=>
      have:=W.cnt
      have h1:=W.abd g; have h2:=W.nb
      simp only[List.length_append]
      omega
    case edb=>
      have:=W.edb
      simp only[List.length_append,List.length_cons,List.length_nil]
      omega
    case eok=>
      intro y hy
      rcases List.mem_append.mp hy with w | w
      · exact W.eok y w
      · simp only[List.mem_singleton] at w; subst w; exact SH hx
  · show Bv H.r k g a=Bv H.r k g b
    rw[jr,jr]
    rcases two with⟨t1,t2⟩ | ⟨t1,t2⟩
    · rw[if_neg (by omega),if_pos t2]; exact t1
    · rw[if_pos t1,if_neg (by omega)]; exact t2.symm
theorem WF.more (W:WF H td R S X){td':Nat}(h:td≤td'):WF H td' R S X:=
  { W with edb:=Nat.le_trans W.edb (by omega) }
theorem WQ (C:Cong R S)(W:WF H td R S X){a b:Nat}{x:SV}(ha:a<H.n)(hb:b<H.n)(hR:R (H.tm a) (H.tm b))(hx:∃d,∀σ,BV 8 σ x=some d):
    WF (C8 H a b x) (td+1) R S X∧Le H (C8 H a b x)∧(C8 H a b x).r a=(C8 H a b x).r b:=by
  by_cases e:H.r a=H.r b
  · have e':C8 H a b x={ H with ed:=H.ed ++ [Du a b x] }:=by unfold C8; rw[if_pos e]
    rw[e']
    refine⟨?_,⟨Nat.le_refl _,fun _ _=>rfl,fun _ _=>rfl,fun _ _ _ _ q=>q⟩,e⟩
    exact { kid:=W.kid,two:=W.two,ops:=W.ops,tmE:=W.tmE,inj:=W.inj,inS:=W.inS,rle:=W.rle,rr:=W.rr,rge:=W.rge,up:=W.up,upb:=W.upb,wb:=W.wb,kb:=W.kb,ok:=W.ok,snd:=W.snd,ksnd:=W.ksnd,asum:=W.asum,abd:=W.abd,nb:=W.nb,cnt:=W.cnt,
            edb:=by have:=W.edb; simp only[List.length_append,List.length_cons,List.length_nil]; omega
            eok:=fun y hy=>by
              rcases List.mem_append.mp hy with w | w
              · exact W.eok y w
              · simp only[List.mem_singleton] at w; subst w; exact SH hx }
  · obtain⟨w,l,q⟩:=SI C W ha hb e hR hx
    exact⟨w.more (by omega),l,q⟩
theorem WF.done {i:Nat}(W:WF H td R S (some i))(h:i∈H.wt∨∃m,H.K (BD H i)=some m∧H.r m=H.r i):WF H td R S none:=
  { W with
    ok:=fun j hj _=>by
      by_cases q:j=i
      · subst q; exact h
      · exact W.ok j hj fun w=>q (by injection w with w; exact w.symm)
    cnt:=by have:=W.cnt; simp at this ⊢; omega }
theorem WR:∃d,∀σ,BV 8 σ KV=some d:=⟨_,fun _=>rfl⟩
theorem SJ (C:Cong R S){i:Nat}(W:WF H td R S (some i))(hi:i<H.n):WF (EA H i) td R S none∧Le H (EA H i):=by
  unfold EA
  cases hK:H.K (BD H i) with
  | none=>
    dsimp only
    refine⟨?_,⟨Nat.le_refl _,fun _ _=>rfl,fun _ _=>rfl,fun _ _ _ _ q=>q⟩⟩
    refine { kid:=W.kid,two:=W.two,ops:=W.ops,tmE:=W.tmE,inj:=W.inj,inS:=W.inS,rle:=W.rle,rr:=W.rr,rge:=W.rge,up:=W.up,upb:=W.upb,wb:=W.wb,kb:=?_,ok:=?_,snd:=W.snd,ksnd:=?_,asum:=W.asum,abd:=W.abd,nb:=W.nb,cnt:=?_,edb:=W.edb,eok:=W.eok }
    · intro x m hx
      dsimp only at hx
      split at hx
      · injection hx with hx; subst hx; exact hi
      · exact W.kb x m hx
    · intro j hj _
      show j∈H.wt∨∃m,(if BD H j=BD H i then some i else H.K (BD H j))=some m∧H.r m=H.r j
      by_cases q:j=i
      · subst q; exact .inr ⟨j,if_pos rfl,rfl⟩
      · rcases W.ok j hj (fun w=>q (by injection w with w; exact w.symm)) with w | ⟨m,w1,w2⟩
        · exact .inl w
        · refine .inr ⟨m,?_,w2⟩
          rw[if_neg fun w=>?_]
          · exact w1
          · rw[w,hK] at w1; cases w1
    · intro x m hx
      dsimp only at hx
      split at hx
      · rename_i q
        injection hx with hx; subst hx; subst q
        refine⟨rfl,by simp[BD],fun t c k h1 h2=>?_⟩
        have h2':(H.nd i).2[t]? =some k:=h2
        simp only[BD,List.getElem?_map,h2',Option.map_some,Option.some.injEq] at h1
        have hk:k∈(H.nd i).2:=List.mem_of_getElem? h2'
        have kn:=W.kidn hi hk
        subst h1
        exact⟨W.rlt kn,W.snd _ _ (W.rlt kn) kn (W.rr k)⟩
      · exact W.ksnd x m hx
    · have:=W.cnt
      simp at this ⊢; omega
  | some m=>
    dsimp only
    by_cases e:H.r m=H.r i
    · rw[if_pos e]
      exact⟨W.done (.inr ⟨m,hK,e⟩),Le.refl⟩
    · rw[if_neg e]
      have hm:=W.kb _ _ hK
      obtain⟨q1,q2,q3⟩:=W.ksnd _ _ hK
      have hR:R (H.tm m) (H.tm i):=by
        rw[W.tmE m hm,W.tmE i hi]
        have s1:=W.inS m hm; have s2:=W.inS i hi
        rw[W.tmE m hm] at s1; rw[W.tmE i hi] at s2
        have q1':(H.nd i).1=(H.nd m).1:=q1
        rw[q1'] at s2 ⊢
        have ql:(H.nd i).2.length=(H.nd m).2.length:=by simpa [BD] using q2
        refine C.cong s1 s2 (by simp; omega) fun t u v hu hv=>?_
        rw[List.getElem?_map] at hu hv
        obtain⟨k,hk,rfl⟩:=Option.map_eq_some_iff.mp hu
        obtain⟨k',hk',rfl⟩:=Option.map_eq_some_iff.mp hv
        have hc:(BD H i).2[t]? =some (H.r k'):=by simp[BD,hk']
        obtain⟨_,w⟩:=q3 t _ _ hc hk
        have kn:=W.kidn hi (List.mem_of_getElem? hk')
        exact C.trans (C.symm w) (W.snd _ _ (W.rlt kn) kn (W.rr k'))
      obtain⟨W',l,q⟩:=SI C W hm hi e hR WR
      refine⟨W'.done ?_,l⟩
      have er:=MH (x:=KV) e rfl rfl
      rw[er] at q ⊢
      obtain⟨kr,gr⟩:=JQ W m i
      generalize min (H.r m) (H.r i)=k at *
      generalize max (H.r m) (H.r i)=g at *
      have jr:∀i,Bv H.r k g i=if H.r i=g then k else H.r i:=fun _=>rfl
      by_cases q:∃c,c∈(H.nd i).2∧H.r c=g
      · obtain⟨c,hc,hg⟩:=q
        have:=W.up i hi c hc
        rw[hg] at this
        exact .inl (List.mem_append_right _ this)
      · refine .inr ⟨m,?_,by assumption⟩
        have:BD { H with r:=Bv H.r k g,A:=fun c=>if c=k then H.A k++H.A g else if c=g then [] else H.A c,wt:=H.wt++H.A g,ed:=H.ed ++ [Du m i KV] } i=BD H i:=by
          unfold BD
          dsimp only
          congr 1
          apply List.map_congr_left
          intro c hc
          rw[jr,if_neg fun w=>q ⟨c,hc,w⟩]
        rw[this]; exact hK
end Mine.P
namespace Mine.P
open scoped Classical
variable {σ σ':Hp}{h:Nat}{H:AH}{L:Lc}{td:Nat}{R:SV→SV→Prop}{S:SV→Prop}{X:Option Nat}
theorem NM {tm:Nat→SV}{n:Nat}(inj:∀i j,i<n→j<n→tm i=tm j→i=j):∀{xs ys:List Nat},(∀k,k∈xs→k<n)→(∀k,k∈ys→k<n)→xs.map tm=ys.map tm→xs=ys
  | [], [],_,_,_=>rfl
  | [],_::_,_,_,e=>by simp at e
  | _::_, [],_,_,e=>by simp at e
  | x::xs,y::ys,hx,hy,e=>by
    simp only[List.map_cons,List.cons.injEq] at e
    rw[inj x y (hx x List.mem_cons_self) (hy y List.mem_cons_self) e.1,NM inj (fun k hk=>hx k (List.mem_cons_of_mem _ hk)) (fun k hk=>hy k (List.mem_cons_of_mem _ hk)) e.2]
theorem WF.nd_inj (W:WF H td R S X){i j:Nat}(hi:i<H.n)(hj:j<H.n)(e:H.nd i=H.nd j):i=j:=by
  apply W.inj i j hi hj
  rw[W.tmE i hi,W.tmE j hj,e]
theorem XN (C:Cong R S)(W:WF H td R S none){op:String}{ks:List Nat}{t:SV}(ho:op∈OPS)(hk:ks.length≤2)(hlt:∀k,k∈ks→k<H.n)(fresh:∀i,i<H.n→H.nd i≠(op,ks))(hn:H.n<40)
    (ht:t= .tup (.str op::ks.map H.tm)) (hS:S t) {Af:Nat→List Nat} (g6:∀c x,x∈(D9 H (op,ks) t).A c→x∈Af c) (g7:∀c x,x∈Af c→x∈(D9 H (op,ks) t).A c∨x=H.n) (g8:∀k,k∈ks→H.n∈Af (H.r k))
    (g9:sm (H.n+1) (fun c=>(Af c).length)≤sm H.n (fun c=>(H.A c).length)+2) (g10:∀c,(Af c).length≤((D9 H (op,ks) t).A c).length+2):
    WF { D9 H (op,ks) t with A:=Af } td R S (some H.n)∧Le H { D9 H (op,ks) t with A:=Af }:=by
  have rn:H.r H.n=H.n:=W.rge _ (Nat.le_refl _)
  have nd1:∀i,i<H.n→(if i=H.n then(op,ks) else H.nd i)=H.nd i:=fun i hi=>if_neg (by omega)
  have tm1:∀i,i<H.n→(if i=H.n then t else H.tm i)=H.tm i:=fun i hi=>if_neg (by omega)
  have mapt:∀ls:List Nat,(∀k,k∈ls→k<H.n)→ls.map (fun i=>if i=H.n then t else H.tm i)=ls.map H.tm:=fun ls hl=>List.map_congr_left fun k hk=>tm1 k (hl k hk)
  have Aold:∀c,(D9 H (op,ks) t).A c=if c=H.n then [] else H.A c:=fun _=>rfl
  have new:∀i,i<H.n→H.tm i≠t:=by
    intro i hi e
    rw[W.tmE i hi,ht] at e
    simp only[SV.tup.injEq,List.cons.injEq,SV.str.injEq] at e
    exact fresh i hi (Prod.ext e.1 (NM W.inj (fun k hk=>W.kidn hi hk) hlt e.2))
  refine⟨?_,⟨Nat.le_succ _,nd1,tm1,fun _ _ _ _ q=>q⟩⟩
  unfold D9
  constructor
  case kid=>
    intro i hi k hk
    dsimp only at hi hk
    by_cases q:i=H.n
    · rw[if_pos q] at hk; have:=hlt k hk; omega
    · rw[if_neg q] at hk; exact W.kid i (by omega) k hk
  case two=>
    intro i hi
    dsimp only at hi ⊢
    by_cases q:i=H.n
    · rw[if_pos q]; exact hk
    · rw[if_neg q]; exact W.two i (by omega)
  case ops=>
    intro i hi
    dsimp only at hi ⊢
    by_cases q:i=H.n
    · rw[if_pos q]; exact ho
    · rw[if_neg q]; exact W.ops i (by omega)
  case tmE=>
    intro i hi
    dsimp only at hi ⊢
    by_cases q:i=H.n
    · rw[if_pos q,if_pos q,mapt ks hlt]; exact ht
    · rw[if_neg q,if_neg q,mapt _ fun k hk=>W.kidn (i:=i) (by omega) hk]; exact W.tmE i (by omega)
  case inj=>
    intro i j hi hj
    dsimp only at hi hj ⊢
    by_cases q:i=H.n
    · by_cases q2:j=H.n
      · intro _; omega
      · rw[if_pos q,if_neg q2]; intro w; exact absurd w.symm (new j (by omega))
    · by_cases q2:j=H.n
      · rw[if_neg q,if_pos q2]; intro w; exact absurd w (new i (by omega))
      · rw[if_neg q,if_neg q2]; exact W.inj i j (by omega) (by omega)
  case inS=>
    intro i hi
    dsimp only at hi ⊢
    by_cases q:i=H.n
    · rw[if_pos q]; exact hS
    · rw[if_neg q]; exact W.inS i (by omega)
  case rle=>exact W.rle
  case rr=>exact W.rr
  case rge=>intro i hi; exact W.rge i (by dsimp only at hi; omega)
  case up=>
    intro i hi k hk
    dsimp only at hi hk ⊢
    by_cases q:i=H.n
    · rw[if_pos q] at hk; subst q; exact g8 k hk
    · rw[if_neg q] at hk
      refine g6 _ _ ?_
      have kn:=W.kidn (i:=i) (by omega) hk
      rw[Aold,if_neg (by have:=W.rlt kn; omega)]
      exact W.up i (by omega) k hk
  case upb=>
    intro c x hx
    dsimp only at hx ⊢
    rcases g7 c x hx with w | w
    · rw[Aold] at w
      split at w
      · simp at w
      · have:=W.upb _ _ w; omega
    · omega
  case wb=>intro x hx; have:=W.wb x hx; dsimp only; omega
  case kb=>intro x m hx; have:=W.kb x m hx; dsimp only; omega
  case ok=>
    intro i hi hX
    dsimp only at hi ⊢
    have hi':i<H.n:=by
      by_cases q:i=H.n
      · subst q; exact absurd rfl hX
      · omega
    rcases W.ok i hi' (by simp) with w | ⟨m,w1,w2⟩
    · exact .inl w
    · refine .inr ⟨m,?_,w2⟩
      rw[←w1]
      unfold BD
      dsimp only
      rw[nd1 i hi']
  case snd=>
    intro i j hi hj e
    dsimp only at hi hj e ⊢
    have r1:=W.rle i; have r2:=W.rle j
    have low:∀u,u<H.n→H.r u<H.n:=fun u hu=>W.rlt hu
    by_cases q:i=H.n
    · by_cases q2:j=H.n
      · rw[if_pos q,if_pos q2]; exact C.refl _
      · have:=low j (by omega); subst q; rw[rn] at e; omega
    · by_cases q2:j=H.n
      · have:=low i (by omega); subst q2; rw[rn] at e; omega
      · rw[if_neg q,if_neg q2]; exact W.snd i j (by omega) (by omega) e
  case ksnd=>
    intro x m hx
    dsimp only at hx ⊢
    have hm:=W.kb x m hx
    obtain⟨q1,q2,q3⟩:=W.ksnd x m hx
    rw[nd1 m hm]
    refine⟨q1,q2,fun u c k hc hk=>?_⟩
    obtain⟨w1,w2⟩:=q3 u c k hc hk
    have kn:=W.kidn hm (List.mem_of_getElem? hk)
    rw[tm1 c w1,tm1 k kn]
    exact⟨by omega,w2⟩
  case asum=>have:=W.asum; dsimp only; omega
  case abd=>
    intro c
    have:=g10 c
    rw[Aold] at this
    have h2:=W.abd c
    dsimp only
    split at this
    · simp at this; omega
    · omega
  case nb=>dsimp only; omega
  case cnt=>
    have:=W.cnt
    have e:rts (H.n+1) H.r=rts H.n H.r+1:=by
      unfold rts
      show sm H.n _+(if H.r H.n=H.n then 1 else 0)=_
      rw[if_pos rn]
    dsimp only
    rw[e]
    simp at this ⊢; omega
  case edb=>
    have:=W.edb
    have e:rts (H.n+1) H.r=rts H.n H.r+1:=by
      unfold rts
      show sm H.n _+(if H.r H.n=H.n then 1 else 0)=_
      rw[if_pos rn]
    dsimp only
    rw[e]; omega
  case eok=>exact W.eok
theorem WF.bounds (W:WF H td R S X)(ht:td≤1000):H.ed.length+2<lim∧(∀c,(H.A c).length≤96)∧H.wt.length+100<lim∧H.kn<lim:=by
  have h1:=W.edb; have h2:=W.nb; have h3:=W.cnt
  refine⟨by unfold lim; omega,fun c=>?_,by unfold lim; omega,by unfold lim; omega⟩
  have:=W.abd c; omega
theorem Ro (C:Cong R S)(htd:td≤1000)(A:HeapAt σ h H L)(W:WF H td R S none){op:String}{ks:List Nat}(ho:op∈OPS)(hk:ks.length≤2)(hlt:∀k,k∈ks→k<H.n)(hn:H.n<40∨∃i,i<H.n∧H.nd i=(op,ks))
    (hS:S (.tup (.str op::ks.map H.tm))):
    ∃j σ' H' L',DS [.loc h,.str op,.tup (Aj ks)] σ=some (.int (j:Nat),σ')∧HeapAt σ' h H' L'∧WF H' td R S none∧Step h H L σ H' L' σ'∧Le H H'∧j<H'.n∧H'.nd j=(op,ks)∧H'.tm j= .tup (.str op::ks.map H.tm)∧
      ((H'.n=H.n∧j<H.n)∨(H'.n=H.n+1∧j=H.n∧∀i,i<H.n→H.nd i≠(op,ks))):=by
  by_cases old:∃i,i<H.n∧H.nd i=(op,ks)
  · obtain⟨j,hj,e⟩:=old
    exact⟨j,σ,H,L,SG A hk W.nb hj e fun i hi q=>W.nd_inj hi hj q,A,W,Step.refl,Le.refl,hj,e,by rw[W.tmE j hj,e],.inl ⟨rfl,hj⟩⟩
  · have fresh:∀i,i<H.n→H.nd i≠(op,ks):=fun i hi e=>old ⟨i,hi,e⟩
    have hn':H.n<40:=hn.resolve_right old
    obtain⟨b1,b2,b3,b4⟩:=W.bounds htd
    obtain⟨Af,σ',L',e1,A',S',g6,g7,g8,g9,g10⟩:=Rl A (.tup (.str op::ks.map H.tm)) hk hn' ho hlt fresh (W.rge _ (Nat.le_refl _)) b1 b2 b3 b4 W.kb
    obtain⟨W1,l1⟩:=XN C W ho hk hlt fresh hn' rfl hS g6 g7 g8 g9 g10
    obtain⟨W2,l2⟩:=SJ C W1 (i:=H.n) (Nat.lt_succ_self _)
    have en:(EA { D9 H (op,ks) (.tup (.str op::ks.map H.tm)) with A:=Af } H.n).n=H.n+1:=by
      unfold EA; split
      · split
        · rfl
        · rw[OE]; rfl
      · rfl
    have nl:H.n<({ D9 H (op,ks) (.tup (.str op::ks.map H.tm)) with A:=Af }:AH).n:=Nat.lt_succ_self _
    refine⟨H.n,σ',_,L',e1,A',W2,S',l1.trans l2,by rw[en]; omega,?_,?_,.inr ⟨en,rfl,fresh⟩⟩
    · rw[l2.nd _ nl]; simp[D9]
    · rw[l2.tm _ nl]; simp[D9]
theorem NN (C:Cong R S)(htd:td≤999)(A:HeapAt σ h H L)(W:WF H td R S none){a b:Nat}{x:SV}(ha:a<H.n)(hb:b<H.n)(hR:R (H.tm a) (H.tm b))(hx:∃d,∀σ,BV 8 σ x=some d):
    ∃v σ' H' L',DE [.loc h,.int (a:Int),.int (b:Int),x] σ=some (.bool v,σ')∧HeapAt σ' h H' L'∧WF H' (td+1) R S none∧Step h H L σ H' L' σ'∧Le H H'∧H'.n=H.n∧H'.r a=H'.r b:=by
  obtain⟨b1,b2,b3,b4⟩:=W.bounds (Nat.le_succ_of_le htd)
  obtain⟨v,σ',L',e,A',S'⟩:=Pp A W.nb b1 (fun c=>by have:=b2 c; omega) b3 (x:=x) ha hb
  obtain⟨W',l,q⟩:=WQ C W ha hb hR hx
  exact⟨v,σ',_,L',BF rfl (BC (AG rfl A.inst rfl rfl e)),A',W',S',l,OE,q⟩
theorem SK {i:Nat}:(EA H i).n=H.n:=by
  unfold EA; split
  · split
    · rfl
    · rw[OE]
  · rfl
theorem WS (W:WF H td R S X){i:Nat}(hi:i<H.n):(EA H i).wt.length+101*rts H.n (EA H i).r≤H.wt.length+101*rts H.n H.r:=by
  unfold EA
  cases hK:H.K (BD H i) with
  | none=>exact Nat.le_refl _
  | some m=>
    dsimp only
    by_cases e:H.r m=H.r i
    · rw[if_pos e]; exact Nat.le_refl _
    · rw[if_neg e]
      have hm:=W.kb _ _ hK
      rw[MH (x:=KV) e rfl rfl]
      obtain⟨kr,gr⟩:=JQ W m i
      have rm:=W.rlt hm; have ri:=W.rlt hi
      have:=Rn kr gr (n:=H.n) (by omega) (by omega)
      have h1:=W.abd (max (H.r m) (H.r i)); have h2:=W.nb
      simp only[List.length_append]
      omega
theorem XO (W:WF H td R S none){w:List Nat}{x:Nat}(e:H.wt=w ++ [x]):WF { H with wt:=w } td R S (some x):=
  { kid:=W.kid,two:=W.two,ops:=W.ops,tmE:=W.tmE,inj:=W.inj,inS:=W.inS,rle:=W.rle,rr:=W.rr,rge:=W.rge,up:=W.up,upb:=W.upb,kb:=W.kb,snd:=W.snd,ksnd:=W.ksnd,asum:=W.asum,abd:=W.abd,nb:=W.nb,edb:=W.edb,eok:=W.eok
    wb:=fun y hy=>W.wb y (by rw[e]; exact List.mem_append_left _ hy)
    ok:=fun i hi hX=>by
      rcases W.ok i hi (by simp) with q | q
      · rw[e] at q
        rcases List.mem_append.mp q with q | q
        · exact .inl q
        · simp only[List.mem_singleton] at q; exact absurd (by rw[q]) hX
      · exact .inr q
    cnt:=by have:=W.cnt; rw[e] at this; simp at this ⊢; omega }
theorem LS (C:Cong R S)(htd:td≤1000)(A:HeapAt σ h H L)(W:WF H td R S none):
    ∃σ' H' L',ED [.loc h] σ=some (.none,σ')∧HeapAt σ' h H' L'∧WF H' td R S none∧Step h H L σ H' L' σ'∧Le H H'∧H'.n=H.n∧H'.wt= []:=by
  obtain⟨ρ',σ',g1,H',L',g2⟩:=GW (t:=AJ (AM .gt (CD (Aq "Heap" (Ab "self") "waiting")) (Ag (.int 0)))) (body:=Bl (AB "Heap" "look_at" Ef (Ab "self") [(NW (Aq "Heap" (Ab "self") "waiting"))]))
    (fun m ρ τ=>∃H' L',HeapAt τ h H' L'∧WF H' td R S none∧Step h H L σ H' L' τ∧Le H H'∧H'.n=H.n∧ρ.lookup "self" =some (.loc h)∧m=H'.wt.length+101*rts H'.n H'.r)
    (fun ρ τ=>∃H' L',HeapAt τ h H' L'∧WF H' td R S none∧Step h H L σ H' L' τ∧Le H H'∧H'.n=H.n∧H'.wt= []) (by
      intro m ρ τ hI
      obtain⟨H',L',A',W',S',l',en,hs,hm⟩:=hI
      have T:AJ (AM .gt (CD (Aq "Heap" (Ab "self") "waiting")) (Ag (.int 0))) ρ τ=some (decide ((0:Int)<(H'.wt.length:Int)),τ):=Bq (Dt (Bd hs A'.inst rfl) A'.waiting Bh) rfl rfl
      by_cases hz:H'.wt.length=0
      · exact⟨false,τ,T.trans (congrArg (fun n:Nat=>some (decide ((0:Int)<(n:Int)),τ)) hz),fun _=>⟨H',L',A',W',S',l',en,List.eq_nil_of_length_eq_zero hz⟩,nofun⟩
      · have hne:H'.wt≠ []:=fun q=>hz (q▸rfl)
        refine⟨true,τ,T.trans (congrArg (fun b=>some (b,τ)) (decide_eq_true (Int.ofNat_lt.mpr (Nat.pos_of_ne_zero hz)))),nofun,fun _=>?_⟩
        obtain⟨w,x,e⟩:∃w x,H'.wt=w ++ [x]:=⟨H'.wt.dropLast,H'.wt.getLast hne,(List.dropLast_concat_getLast hne).symm⟩
        have hx:x<H'.n:=W'.wb x (e▸List.mem_append_right _ List.mem_cons_self)
        have A1:=A'.wt_upd (w:=w)
        have W1:=XO W' e
        have S1:Step h H' L' τ { H' with wt:=w } L' (τ.set (h+14) (.list (Aj w))):=⟨Nat.le_of_eq List.length_set.symm,fun l hl ho=>⟨Fk fun q=>ho (q▸OF rfl),ho⟩⟩
        obtain⟨b1,b2,b3,b4⟩:=W1.bounds htd
        obtain⟨τ2,L2,e2,A2,S2⟩:=Pq A1 W1.nb b1 (fun c=>by have:=b2 c; omega) b3 b4 W1.kb (i:=x) hx (W1.two x hx) (fun k hk=>W1.kidn hx hk)
        obtain⟨W2,l2⟩:=SJ C W1 hx
        have l1:Le H' { H' with wt:=w }:=⟨Nat.le_refl _,fun _ _=>rfl,fun _ _=>rfl,fun _ _ _ _ q=>q⟩
        have mu:=WS W1 hx
        have hw:=A'.waiting
        rw[e,Iu] at hw
        refine⟨ρ,τ2,_,Ek (AG (Ao hs) A'.inst rfl (AA (Wd (Bd hs A'.inst rfl) hw) rfl) e2) rfl,?_,_,L2,A2,W2,S'.trans (S1.trans S2),l'.trans (l1.trans l2),SK.trans en,hs,rfl⟩
        rw[SK,hm,e,List.length_append]
        exact Nat.lt_of_le_of_lt mu (Nat.add_lt_add_right (Nat.lt_succ_self _) _)) (m:=H.wt.length+101*rts H.n H.r) (ρ:= [("self",.loc h)]) (σ:=σ) (by
            have:=W.cnt; have:=W.nb; have:=XJ (n:=H.n) (r:=H.r); unfold FR; omega) ⟨H,L,A,W,Step.refl,Le.refl,rfl,rfl,rfl⟩
  exact⟨σ',H',L',GX rfl g1,g2⟩
theorem Rp (W:WF H td R S none)(hw:H.wt= []){i j:Nat}(hi:i<H.n)(hj:j<H.n)(e:BD H i=BD H j):H.r i=H.r j:=by
  rcases W.ok i hi (by simp) with q | ⟨m,q1,q2⟩
  · rw[hw] at q; simp at q
  · rcases W.ok j hj (by simp) with p | ⟨m',p1,p2⟩
    · rw[hw] at p; simp at p
    · rw[e,p1] at q1; injection q1 with q1; subst q1; omega
end Mine.P
namespace Mine.P
open scoped Classical
variable {σ σ':Hp}{h:Nat}{H:AH}{L:Lc}{td:Nat}{R:SV→SV→Prop}{S:SV→Prop}{X:Option Nat}
@[simp] theorem WT {σ t:Hp}{a o:SObj}:(σ++a::t).set σ.length o=σ++o::t:=by rw[List.set_append_right _ _ (Nat.le_refl _)]; simp
@[simp] theorem WU {σ t:Hp}{a b o:SObj}:(σ++a::b::t).set (σ.length+1) o=σ++a::o::t:=by rw[List.set_append_right _ _ (by omega)]; simp
theorem Dn {σ t:Hp}{k:Nat}:(σ++t)[σ.length+k]? =t[k]?:=by rw[List.getElem?_append_right (Nat.le_add_right ..),Nat.add_sub_cancel_left]
theorem Ll {σ t:Hp}{k:Nat}{o:SObj}:(σ++t).set (σ.length+k) o=σ++t.set k o:=by rw[List.set_append_right _ _ (Nat.le_add_right ..),Nat.add_sub_cancel_left]
noncomputable def Qf:SV→Nat
  | .int x=>x.toNat
  | _=>0
theorem WV (xs:List Nat):(Aj xs).map Qf=xs:=by
  induction xs with
  | nil=>rfl
  | cons x xs ih=>simp[ih,Qf]
theorem LT (xs:List Nat):∃ys,AS (Aj xs)=Aj ys∧ys.Perm xs∧ys.Pairwise (fun a b=>a≤b):=by
  have hm:∀v,v∈AS (Aj xs)→∃k:Nat,v= .int (k:Int):=fun v hv=>by
    obtain⟨k,_,e⟩:=CZ.mp (MC.mp hv)
    exact⟨k,e⟩
  have e:AS (Aj xs)=Aj ((AS (Aj xs)).map Qf):=by
    unfold Aj
    rw[List.map_map]
    conv=>lhs; rw[←List.map_id (AS (List.map _ xs))]
    apply List.map_congr_left
    intro v hv
    obtain⟨k,rfl⟩:=hm v hv
    rfl
  refine⟨_,e,?_,?_⟩
  · have:=(CI (Aj xs)).map Qf
    rw[WV] at this
    exact this
  · have:=UR (xs:=Aj xs) IM
    rw[List.pairwise_map]
    refine this.imp_of_mem fun {a b} ha hb hab=>?_
    obtain⟨i,rfl⟩:=hm a ha
    obtain⟨j,rfl⟩:=hm b hb
    have:=hab i j rfl rfl
    show(i:Int).toNat≤(j:Int).toNat
    omega
noncomputable def dictOf (ks:List Nat):List (SV×SV):=ks.map fun(k:Nat)=>(SV.int (k:Int),SV.bool true)
theorem Sa {ks:List Nat}:(dictOf ks).map (·.1)=Aj ks:=by rw[dictOf,Aj,List.map_map]; rfl
theorem TX {ks:List Nat}:(dictOf ks).all (fun x=>x.1.isInt)=true:=by
  rw[List.all_eq_true]; intro x hx
  exact(List.mem_map.mp hx).elim fun k e=>e.2▸rfl
theorem J3 {k:Nat}:∀{ks:List Nat},(dictOf ks).lookup (.int (k:Int))=if k∈ks then some (.bool true) else none
  | []=>(if_neg List.not_mem_nil).symm
  | a::ks=>by
    show((SV.int (a:Int),SV.bool true)::dictOf ks).lookup _=_
    rw[Cg,J3]
    by_cases q:k=a
    · rw[if_pos (q▸rfl),if_pos (q▸List.mem_cons_self)]
    · rw[if_neg fun w=>Dm q (SV.int.inj w)]
      exact ite_congr (propext ⟨List.mem_cons_of_mem _,fun w=>(List.mem_cons.mp w).resolve_left q⟩) (fun _=>rfl) fun _=>rfl
theorem Sb {ks:List Nat}{k:Nat}:dictOf ks ++ [(.int (k:Int),.bool true)]=dictOf (ks ++ [k]):=(List.map_append (l₁:=ks) (l₂:= [k]) (f:=fun(k:Nat)=>(SV.int (k:Int),SV.bool true))).symm
theorem WW {σ:Hp}{a b c d:SObj}:((σ ++ [a,b]).set σ.length c).set (σ.length+1) d=σ ++ [c,d]:=by rw[WT,WU]
theorem E6 {α:Type}{x y:α}{xs:List α}{P:Prop}(h:x∈xs ++ [y])(a:x∈xs→P)(b:x=y→P):P:=(List.mem_append.mp h).elim a fun w=>b (List.mem_singleton.mp w)
theorem Hg {α:Type}{x:α}{xs:List α}:x∈xs ++ [x]:=List.mem_append_right _ List.mem_cons_self
theorem FU {α:Type}{x y:α}{xs:List α}{P:Prop}(h:x∈y::xs)(a:x=y→P)(b:x∈xs→P):P:=(List.mem_cons.mp h).elim a b
theorem U7 (A:HeapAt σ h H L)(hn:H.n≤40){x:Nat}{cs ks st:List Nat}(hcs:∀c,c∈cs→c<H.n){ver:Nat}(nk:ks.Nodup)(kn:∀k,k∈ks→k<H.n)(sk:∀k,k∈st→k∈ks)(nst:st.length≤ks.length){ρ:Rho}
    (hb:ρ.lookup "below" =some (.loc σ.length)) (hst:ρ.lookup "stack" =some (.loc (σ.length+1))) (hs:ρ.lookup "self" =some (.loc (h+1))) (hnn:∃v,ρ.lookup "n" =some v):
    ∃ρ' ks' st' ver',FX (.name "kid") none (xIf (AJ (AM .notin (Ab "kid") (Ab "below")))
        (AC (CM (Ab "below") (Ab "kid") (Ag (.bool true)))
        (Bl (B6 (Ab "stack") (Ab "kid"))))
        Ck) (Aj cs) ρ (σ ++ [.dict (dictOf ks) ver,.list (Aj st)])=some (.next,ρ',σ ++ [.dict (dictOf ks') ver',.list (Aj st')])∧
      (∀y,y≠ "kid" →ρ'.lookup y=ρ.lookup y)∧ks'.Nodup∧(∀k,k∈ks'→k<H.n)∧(∀k,k∈st'→k∈ks')∧(∀k,k∈ks→k∈ks')∧(∀k,k∈st→k∈st')∧(∀k,k∈ks'→k∈ks∨k∈st')∧(∀c,c∈cs→c∈ks')∧st'.length+ks.length=st.length+ks'.length:=by
  obtain⟨ρ',σ',g1,ks',st',ver',cs',g2,g3,g4,g5,g6,g7,g8,g9,g10,g11⟩:=CC (tgt:= .name "kid") (chk:=none) (body:=xIf (AJ (AM .notin (Ab "kid") (Ab "below")))
        (AC (CM (Ab "below") (Ab "kid") (Ag (.bool true)))
        (Bl (B6 (Ab "stack") (Ab "kid"))))
        Ck)
    (fun xs ρ' τ=>∃ks' st' ver' cs',xs=Aj cs'∧τ=σ ++ [.dict (dictOf ks') ver',.list (Aj st')]∧(∀y,y≠ "kid" →ρ'.lookup y=ρ.lookup y)∧ks'.Nodup∧(∀k,k∈ks'→k<H.n)∧(∀k,k∈st'→k∈ks')∧(∀k,k∈ks→k∈ks')∧(∀k,k∈st→k∈st')∧(∀k,k∈ks'→k∈ks∨k∈st')∧
      ((∀c,c∈cs→c∈ks'∨c∈cs')∧(∀c,c∈cs'→c∈cs)∧st'.length+ks.length=st.length+ks'.length)) (fun _ _ _ _=>rfl) (by
      intro v xs ρ' τ hI
      obtain⟨ks',st',ver',cs',g2,rfl,g3,g4,g5,g6,g7,g8,g9,g10,g11,g12⟩:=hI
      cases cs' with
      | nil=>exact nomatch g2
      | cons c cs'=>
        obtain⟨rfl,rfl⟩:=List.cons.inj g2
        have q1:=Au (x:= "kid") (v:= .int (c:Int)) ((g3 _ (by decide)).trans hb) (by decide)
        have q2:=Au (x:= "kid") (v:= .int (c:Int)) ((g3 _ (by decide)).trans hst) (by decide)
        have kf:Bz (.int (c:Int)) (dictOf ks')=true:=C7 rfl TX
        have lk:=J3 (k:=c) (ks:=ks')
        have cn:=hcs c (g11 c List.mem_cons_self)
        have miss:∀y,y≠ "kid" →(Rho.put ρ' "kid" (.int (c:Int))).lookup y=ρ.lookup y:=fun y hy=>by rw[AK,if_neg hy,g3 y hy]
        have D:=Dn (σ:=σ) (t:= [.dict (dictOf ks') ver',.list (Aj st')]) (k:=0)
        by_cases hc:c∈ks'
        · exact⟨_,_,_,rfl,DY (Bq (Ao AP) (Ao q1) (XB D kf (lk.trans (if_pos hc)))) rfl,ks',st',ver',cs',rfl,rfl,miss,g4,g5,g6,g7,g8,g9,
            fun d hd=>(g10 d hd).elim .inl fun w=>FU w (fun w=> .inl (w▸hc)) .inr,fun d hd=>g11 d (List.mem_cons_of_mem _ hd),g12⟩
        · have ds:=Ez (k:= .int (c:Int)) (v:= .bool true) kf (AL (by have:=BX H.n ks' g4 g5; rw[dictOf,List.length_map]; exact Nat.le_trans this (Nat.le_trans hn (by decide))))
          rw[GY (lk.trans (if_neg hc)),Sb] at ds
          have sl:(Aj st').length<lim:=AL (by have:=BX H.n ks' g4 g5; rw[Bh]; omega)
          have L:=sn (x:= .dict (dictOf (ks' ++ [c])) (ver'+1)) (Dn (σ:=σ) (t:= [.dict (dictOf ks') ver',.list (Aj st')]) (k:=1)) (hne (m:=0) rfl)
          exact⟨_,_,_,rfl,(FG (Bq (Ao AP) (Ao q1) (XA D kf (lk.trans (if_neg hc)))) (Bf (KO rfl (Ao q1) (Ao AP) D ds) (Ek (CY (Ao q2) L (Ao AP) L sl) rfl))).trans
              (congrArg (fun s=>some (Flw.next,_,s)) (WW.trans (congrArg (fun z=>σ ++ [_,SObj.list z]) Iu.symm))),ks' ++ [c],st' ++ [c],ver'+1,cs',rfl,rfl,miss,
            List.nodup_append.mpr ⟨g4,List.nodup_cons.mpr ⟨List.not_mem_nil,List.nodup_nil⟩,fun u hu v hv q=>hc (List.mem_singleton.mp hv▸q▸hu)⟩,fun k hk=>E6 hk (g5 k) fun w=>w▸cn,
            fun k hk=>E6 hk (fun w=>List.mem_append_left _ (g6 k w)) fun w=>w▸Hg,fun k hk=>List.mem_append_left _ (g7 k hk),fun k hk=>List.mem_append_left _ (g8 k hk),
            fun k hk=>E6 hk (fun w=>(g9 k w).imp_right (List.mem_append_left _)) fun w=> .inr (w▸Hg),
            fun d hd=>(g10 d hd).elim (fun w=> .inl (List.mem_append_left _ w)) fun w=>FU w (fun w=> .inl (w▸Hg)) .inr,fun d hd=>g11 d (List.mem_cons_of_mem _ hd),by
              rw[List.length_append,List.length_append]; exact(Nat.add_right_comm ..).trans (congrArg (· + 1) g12)⟩)
    (Aj cs) ρ _ ⟨ks,st,ver,cs,rfl,rfl,fun _ _=>rfl,nk,kn,sk,fun _ w=>w,fun _ w=>w,fun _ w=> .inl w,fun _ w=> .inr w,fun _ w=>w,rfl⟩
  have e0:cs'= []:=by
    cases cs' with
    | nil=>rfl
    | cons=>exact nomatch g2
  subst e0
  subst g3
  exact⟨ρ',ks',st',ver',g1,g4,g5,g6,g7,g8,g9,g10,fun c hc=>(g11.1 c hc).resolve_right List.not_mem_nil,g11.2.2⟩
theorem U8 (A:HeapAt σ h H L)(W:WF H td R S X){i:Nat}(hi:i<H.n):∃t,EL [.loc (h+1),.int (i:Int)] σ=some (H.tm i,σ++t):=by
  have hn:=W.nb
  unfold EL Lu
  obtain⟨ρ1,σ1,w1,ks,ver,q1,q2,q3,q4,qn,q5,q6,q7⟩:=GW (t:=AJ (AM .gt (CD (Ab "stack")) (Ag (.int 0)))) (body:=CN (.name "kid") (Bn (AB "Bank" "kids" Cv (Ab "self") [(NW (Ab "stack"))]))
        (xIf (AJ (AM .notin (Ab "kid") (Ab "below")))
        (AC (CM (Ab "below") (Ab "kid") (Ag (.bool true)))
        (Bl (B6 (Ab "stack") (Ab "kid"))))
        Ck))
    (fun m ρ τ=>∃ks st ver,τ=σ ++ [.dict (dictOf ks) ver,.list (Aj st)]∧ρ.lookup "below" =some (.loc σ.length)∧ρ.lookup "stack" =some (.loc (σ.length+1))∧ρ.lookup "self" =some (.loc (h+1))∧ρ.lookup "n" =some (.int (i:Int))∧
      ks.Nodup∧(∀k,k∈ks→k<H.n)∧(∀k,k∈st→k∈ks)∧i∈ks∧(∀k,k∈ks→k∈st∨∀c,c∈(H.nd k).2→c∈ks)∧st.length≤ks.length∧m=(H.n-ks.length)+st.length)
    (fun ρ τ=>∃ks ver,τ=σ ++ [.dict (dictOf ks) ver,.list []]∧ρ.lookup "below" =some (.loc σ.length)∧ρ.lookup "self" =some (.loc (h+1))∧ρ.lookup "n" =some (.int (i:Int))∧
      ks.Nodup∧(∀k,k∈ks→k<H.n)∧i∈ks∧(∀k,k∈ks→∀c,c∈(H.nd k).2→c∈ks)) (by
      intro m ρ τ hI
      obtain⟨ks,st,ver,rfl,e1,e2,e3,e4,e5,e6,e7,e8,e9,e10,rfl⟩:=hI
      have T:=fun {b}=>Bq (ρ:=ρ) (r:=b) (o:= .gt) (b:=Ag (.int 0)) (Dt (Ao e2) (Dn (σ:=σ) (t:= [.dict (dictOf ks) ver,.list (Aj st)]) (k:=1)) Bh) rfl
      by_cases hst:st.length=0
      · have:st= []:=List.eq_nil_of_length_eq_zero hst
        subst this
        exact⟨false,_,T rfl,fun _=>⟨ks,ver,rfl,e1,e3,e4,e5,e6,e8,fun k hk=>(e9 k hk).resolve_left List.not_mem_nil⟩,nofun⟩
      · have hne:st≠ []:=fun q=>hst (q▸rfl)
        obtain⟨w,x,rfl⟩:∃w x,st=w ++ [x]:=⟨st.dropLast,st.getLast hne,(List.dropLast_concat_getLast hne).symm⟩
        refine⟨true,_,T (congrArg some (decide_eq_true (Int.ofNat_lt.mpr (Nat.pos_of_ne_zero hst)))),nofun,fun _=>?_⟩
        have hx:x<H.n:=e6 x (e7 x Hg)
        have wl:w.length+1≤ks.length:=by rw[List.length_append] at e10; exact e10
        obtain⟨ρ',ks',st',ver',l1,l2,l3,l4,l5,l6,l7,l8,l9,l10⟩:=U7 A hn (x:=x) (fun c hc=>W.kidn hx hc) (ver:=ver) e5 e6 (st:=w) (fun k hk=>e7 k (List.mem_append_left _ hk)) (Nat.le_of_succ_le wl) e1 e2 e3 ⟨_,e4⟩
        have kl:=BX H.n ks' l3 l4
        have kl0:=BX H.n ks e5 e6
        have kk:=Iw (A.app [.dict (dictOf ks) ver,.list (Aj w)]) hx (W.two x hx)
        have bk:=(A.app [.dict (dictOf ks) ver,.list (Aj (w ++ [x]))]).bank
        have pop:=Wd (Ao e2) ((Dn (σ:=σ) (t:= [.dict (dictOf ks) ver,.list (Aj (w ++ [x]))]) (k:=1)).trans (congrArg (fun z=>some (SObj.list z)) Iu))
        rw[Ll] at pop
        refine⟨ρ',_,(H.n-ks'.length)+st'.length,FI (Cf (AG (Ao e3) bk rfl (AA pop rfl) kk) (DP (En (W.two x hx)))) l1,?_,ks',st',ver',rfl,(l2 _ (by decide)).trans e1,(l2 _ (by decide)).trans e2,(l2 _ (by decide)).trans e3,(l2 _ (by decide)).trans e4,l3,l4,l5,l6 _ e8,fun k hk=>?_,?_,rfl⟩
        · rw[List.length_append]; show _<_+(w.length+1); omega
        · exact(l8 k hk).elim (fun w'=>(e9 k w').elim (fun w2=>E6 w2 (fun w2=> .inl (l7 k w2)) fun w2=> .inr (w2▸l9)) fun w2=> .inr fun c hc=>l6 c (w2 c hc)) .inl
        · omega) (m:=(H.n-1)+1) (ρ:=Rho.put (Rho.put [("self",.loc (h+1)),("n",.int (i:Int))] "below" (.loc σ.length)) "stack" (.loc (σ.length+1))) (σ:=σ ++ [.dict (dictOf [i]) 0,.list (Aj [i])])
      (Nat.lt_of_le_of_lt (Nat.add_le_add_right (Nat.le_trans (Nat.sub_le ..) hn) 1) (by decide)) ⟨[i], [i],0,rfl,rfl,rfl,rfl,rfl,List.nodup_cons.mpr ⟨List.not_mem_nil,List.nodup_nil⟩,fun k hk=>List.mem_singleton.mp hk▸hi,fun _ w=>w,List.mem_cons_self,fun k hk=> .inl hk,Nat.le_refl _,rfl⟩
  subst q1
  obtain⟨ss,es,ps,srt⟩:=LT ks
  have kl:=Nat.le_trans (BX H.n ks qn q5) hn
  have sb:EX (Aj ks)=true:=Hn (Nat.lt_of_le_of_lt kl (by decide))
  obtain⟨ρ2,σ2,f1,rest,made,ver2,t2,p1,p2,p3,p4,p5,p6,p7,p8⟩:=CC (tgt:= .name "k") (chk:=some (σ.length+3,.list (Aj ss))) (body:=CM (Ab "made") (Ab "k") (eOp .add (Bw [(AB "Bank" "op" DR (Ab "self") [(Ab "k")])]) (CL (Bb ["made"] (.name "kid") (Bn (AB "Bank" "kids" Cv (Ab "self") [(Ab "k")])) [] (Ap (Ab "made") (Ab "kid"))))))
    (fun xs ρ τ=>∃rest made ver2 t2,xs=Aj rest∧τ=σ ++ .dict (dictOf ks) ver:: .list []:: .dict made ver2:: .list (Aj ss)::t2∧ρ.lookup "made" =some (.loc (σ.length+2))∧ρ.lookup "self" =some (.loc (h+1))∧ρ.lookup "n" =some (.int (i:Int))∧
      (made.all (fun x=>x.1.isInt)=true)∧(made.length+rest.length≤ss.length)∧(rest.Pairwise (fun a b=>a≤b))∧(∀k,k∈rest→k∈ks)∧(∀k:Nat,k∈ks→k∈rest∨made.lookup (.int (k:Int))=some (H.tm k))) (by
      intro xs ρ τ hI
      obtain⟨rest,made,ver2,t2,_,rfl,_⟩:=hI
      exact decide_eq_true Dn) (by
      intro v xs ρ τ hI
      obtain⟨rest,made,ver2,t2,p1,rfl,p3,p4,p5,p6,p7,p8,p9,p10⟩:=hI
      cases rest with
      | nil=>exact nomatch p1
      | cons k rest=>
        obtain⟨rfl,rfl⟩:=List.cons.inj p1
        have hk:=p9 k List.mem_cons_self
        have hkn:k<H.n:=q5 k hk
        have A2:=A.app (.dict (dictOf ks) ver:: .list []:: .dict made ver2:: .list (Aj ss)::t2)
        have m2:=Dn (σ:=σ) (t:= .dict (dictOf ks) ver:: .list []:: .dict made ver2:: .list (Aj ss)::t2) (k:=2)
        have comp:=CJ (tgt:= .name "kid") (chk:=none) (elt:=Ap (Ab "made") (Ab "kid")) (ρ:= [("made",.loc (σ.length+2))]) (σ:=σ ++ .dict (dictOf ks) ver:: .list []:: .dict made ver2:: .list (Aj ss)::t2)
          (g:=fun x=>match x with | .int x=>H.tm x.toNat | v=>v) rfl (Aj (H.nd k).2) (by
            intro x hx
            obtain⟨c,hc,e⟩:=CZ.mp hx
            have lt:=W.kid k hkn c hc
            have lk:made.lookup (.int (c:Int))=some (H.tm c):=(p10 c (q7 k hk c hc)).resolve_left fun w=>FU w (fun w=>Nat.ne_of_lt lt w) fun w=>Nat.not_le_of_lt lt ((List.pairwise_cons.mp p8).1 c w)
            exact⟨_,rfl,e▸Fj rfl rfl m2 (C7 rfl p6) lk⟩)
        have e:(Aj (H.nd k).2).map (fun x=>match x with | .int x=>H.tm x.toNat | v=>v)=(H.nd k).2.map H.tm:=by rw[Aj,List.map_map]; rfl
        rw[e] at comp
        have two:=W.two k hkn
        have p3':=Au (x:= "k") (v:= .int (k:Int)) p3 (by decide)
        have p4':=Au (x:= "k") (v:= .int (k:Int)) p4 (by decide)
        have ds:=Ez (k:= .int (k:Int)) (v:=H.tm k) (C7 rfl p6) (AL (Nat.le_trans (Nat.le_trans (Nat.le_add_right ..) p7) (ps.length_eq▸Nat.le_trans kl (by decide))))
        have ov:eOp .add (Bw [(AB "Bank" "op" DR (Ab "self") [(Ab "k")])]) (CL (Bb ["made"] (.name "kid") (Bn (AB "Bank" "kids" Cv (Ab "self") [(Ab "k")])) [] (Ap (Ab "made") (Ab "kid")))) (Rho.put ρ "k" (.int (k:Int))) _=some (H.tm k,_):=
          (ND (EV (AA (AG (Ao p4') A2.bank rfl (AA (Ao AP) rfl) (OB A2 hkn)) rfl)) (Jk (Cy (Cf (AG (Ao p4') A2.bank rfl (AA (Ao AP) rfl) (Iw A2 hkn two)) (DP (En two))) (by rw[BW p3']; exact comp) (AL (List.length_map (as:=(H.nd k).2) H.tm▸Nat.le_trans two (by decide)))) AE)
          (AL (by rw[List.length_map]; exact Nat.le_trans (Nat.add_le_add_left two 1) (show 3≤1000 by decide)))).trans (congrArg (fun z=>some (z,_)) (W.tmE k hkn).symm)
        refine⟨_,_,_,rfl,(KO ov (Ao p3') (Ao AP) (Ae m2) ds).trans (congrArg (fun s=>some (Flw.next,_,s)) ((congrArg (fun s:Hp=>s.set (σ.length+2) _) (List.append_assoc ..)).trans (Ll (k:=2)))),rest,_,ver2+1,_,rfl,rfl,p3',p4',Au p5 (by decide),Fy rfl p6,?_,(List.pairwise_cons.mp p8).2,fun c hc=>p9 c (List.mem_cons_of_mem _ hc),fun c hc=>?_⟩
        · exact Nat.le_trans (Nat.add_le_add_right dictPut_length _) (Nat.le_trans (Nat.le_of_eq (Nat.add_right_comm ..)) p7)
        · rw[El]
          by_cases q:c=k
          · exact .inr (q▸if_pos rfl)
          · rw[if_neg fun w=>Dm q (SV.int.inj w)]
            exact(p10 c hc).imp_left fun w=>(List.mem_cons.mp w).resolve_left q) (Aj ss) (Rho.put ρ1 "made" (.loc (σ.length+2))) (σ ++ .dict (dictOf ks) ver:: .list []:: .dict [] 0:: .list (Aj ss):: [])
      ⟨ss, [],0, [],rfl,rfl,AP,Au q3 (by decide),Au q4 (by decide),rfl,Nat.le_of_eq (Nat.zero_add _),srt,fun k hk=>ps.mem_iff.mp hk,fun k hk=> .inl (ps.mem_iff.mpr hk)⟩
  have er:rest= []:=by
    cases rest with
    | nil=>rfl
    | cons=>exact nomatch p1
  subst er
  subst p2
  have lk:made.lookup (.int (i:Int))=some (H.tm i):=(p8.2.2 i q6).resolve_left List.not_mem_nil
  have ap2:∀{a b:SObj},σ ++ [a] ++ [b]=σ ++ [a,b]:=List.append_assoc ..
  have ap3:∀{a b c:SObj},σ ++ [a,b] ++ [c]=σ ++ [a,b,c]:=List.append_assoc ..
  have ap4:∀{a b c d:SObj},σ ++ [a,b,c] ++ [d]=σ ++ [a,b,c,d]:=List.append_assoc ..
  have ln:∀{t:Hp},(σ++t).length=σ.length+t.length:=List.length_append
  have s1:Bi (.pair "below" "stack") (Bw [(Qk (Ab "n") (Ag (.bool true))),(Cc [(Ab "n")])]) [("self",.loc (h+1)),("n",.int (i:Int))] σ=some (.next,Rho.put (Rho.put [("self",.loc (h+1)),("n",.int (i:Int))] "below" (.loc σ.length)) "stack" (.loc (σ.length+1)),σ ++ [.dict (dictOf [i]) 0,.list (Aj [i])]):=
    (Go rfl rfl).trans (by rw[ap2,ln]; rfl)
  have s3:Bi (.name "made") IS ρ1 (σ ++ [.dict (dictOf ks) ver,.list []])=some (.next,Rho.put ρ1 "made" (.loc (σ.length+2)),σ ++ [.dict (dictOf ks) ver,.list [],.dict [] 0]):=(Gn rfl).trans (by rw[ap3,ln]; rfl)
  have s4:Bn (DA (Ab "below")) (Rho.put ρ1 "made" (.loc (σ.length+2))) (σ ++ [.dict (dictOf ks) ver,.list [],.dict [] 0])=some ((Aj ss,some (σ.length+3,.list (Aj ss))),σ ++ [.dict (dictOf ks) ver,.list [],.dict [] 0,.list (Aj ss)]):=by
    have:=FO (Ao (Au (x:= "made") (v:= .loc (σ.length+2)) q2 (by decide))) ((NF (Dn (σ:=σ) (t:= [.dict (dictOf ks) ver,.list [],.dict [] 0]) (k:=0))).trans (congrArg some Sa)) sb
    rw[es,ap4,ln] at this
    exact Cf this (D7 (Dn (k:=3)))
  exact⟨_,BF rfl (Bf s1 (Bf w1 (Bf s3 (Bf (FI s4 f1) (BC (Fj (Ao p3) (Ao p5) (Dn (k:=2)) (C7 rfl p6) lk))))))⟩
end Mine.P
namespace Mine.P
open scoped Classical
variable {σ σ':Hp}{h:Nat}{H:AH}{L:Lc}{td:Nat}{R:SV→SV→Prop}{S:SV→Prop}{X:Option Nat}
noncomputable def C2 (h:Nat):Hp:= [.inst "Heap" [("bank",.loc (h+1)),("unions",.loc (h+6)),("edges",.loc (h+10)),("forest",.loc (h+11)),("known",.loc (h+12)),("above",.loc (h+13)),("waiting",.loc (h+14)),("backs",.int 0)],
  .inst "Bank" [("nodes",.loc (h+2)),("numbers",.loc (h+3)),("weights",.loc (h+4)),("depths",.loc (h+5))],.list [],.dict [] 0,.list [],.list [],
  .inst "Unions" [("above",.loc (h+7)),("lots",.loc (h+8)),("merged",.loc (h+9))],.list [],.list [],.list [],.list [],.list [],.dict [] 0,.dict [] 0,.list []]
theorem D2 {ρ:Rho}{c f:String}{v:Ev}{k n:Nat}{t u t':Hp}{fs:List (String×SV)}(hs:ρ.lookup "self" =some (.loc (σ.length+k)))(hv:v ρ (σ++t)=some (.loc (σ.length+n),σ++u))(hk:u[k]? =some (.inst c fs))(hl:Nat.ble fs.length 100=true)
    (ht:u.set k (.inst c (Rho.put fs f (.loc (σ.length+n))))=t'):BE c (Ab "self") f v ρ (σ++t)=some (.next,ρ,σ++t'):=
  (NH hv (Ao hs) (Dn.trans hk) (Nat.le_of_ble_eq_true hl)).trans (congrArg (fun s=>some (Flw.next,ρ,s)) (Ll.trans (congrArg _ ht)))
theorem FJ {t:Hp}{o:SObj}{n:Nat}(hn:t.length=n):newObj o (σ++t)=some (.loc (σ.length+n),σ++(t ++ [o])):=by
  unfold newObj; rw[List.length_append,hn,List.append_assoc]
theorem EI {a b:Ex}{ρ:Rho}{s s':Hp}{r:Option (Flw×Rho×Hp)}(ha:a ρ s=some (.next,ρ,s'))(hb:b ρ s'=r):AC a b ρ s=r:=KM ha hb
noncomputable def Fl (b:Nat):Hp:= [.inst "Bank" [("nodes",.loc (b+1)),("numbers",.loc (b+2)),("weights",.loc (b+3)),("depths",.loc (b+4))],.list [],.dict [] 0,.list [],.list []]
noncomputable def Er (b:Nat):Hp:= [.inst "Unions" [("above",.loc (b+1)),("lots",.loc (b+2)),("merged",.loc (b+3))],.list [],.list [],.list []]
theorem U9:IB [.loc σ.length] (σ ++ [.inst "Bank" []])=some (.none,σ++Fl σ.length):=
  GX rfl (EI (D2 (k:=0) (n:=1) (t':= .inst "Bank" [("nodes",.loc (σ.length+1))]::([SObj.list []])) rfl (FJ rfl) rfl rfl rfl)
    (EI (D2 (k:=0) (n:=2) (t':= .inst "Bank" [("nodes",.loc (σ.length+1)),("numbers",.loc (σ.length+2))]::([SObj.list []] ++ [SObj.dict [] 0])) rfl (FJ rfl) rfl rfl rfl)
    (EI (D2 (k:=0) (n:=3) (t':= .inst "Bank" [("nodes",.loc (σ.length+1)),("numbers",.loc (σ.length+2)),("weights",.loc (σ.length+3))]::([SObj.list []] ++ [SObj.dict [] 0] ++ [SObj.list []])) rfl (FJ rfl) rfl rfl rfl)
    (D2 (k:=0) (n:=4) (t':= .inst "Bank" [("nodes",.loc (σ.length+1)),("numbers",.loc (σ.length+2)),("weights",.loc (σ.length+3)),("depths",.loc (σ.length+4))]::([SObj.list []] ++ [SObj.dict [] 0] ++ [SObj.list []] ++ [SObj.list []])) rfl (FJ rfl) rfl rfl rfl))))
theorem Sc:Hh [.loc σ.length] (σ ++ [.inst "Unions" []])=some (.none,σ++Er σ.length):=
  GX rfl (EI (D2 (k:=0) (n:=1) (t':= .inst "Unions" [("above",.loc (σ.length+1))]::([SObj.list []])) rfl (FJ rfl) rfl rfl rfl)
    (EI (D2 (k:=0) (n:=2) (t':= .inst "Unions" [("above",.loc (σ.length+1)),("lots",.loc (σ.length+2))]::([SObj.list []] ++ [SObj.list []])) rfl (FJ rfl) rfl rfl rfl)
    (D2 (k:=0) (n:=3) (t':= .inst "Unions" [("above",.loc (σ.length+1)),("lots",.loc (σ.length+2)),("merged",.loc (σ.length+3))]::([SObj.list []] ++ [SObj.list []] ++ [SObj.list []])) rfl (FJ rfl) rfl rfl rfl)))
theorem SL {ρ:Rho}{c:String}{f:Fn}{t u:Hp}{n:Nat}{o:Nat→Hp}(hn:t.length=n)(hf:∀σ:Hp,f [.loc σ.length] (σ ++ [.inst c []])=some (.none,σ++o σ.length))(hu:t++o (σ.length+n)=u):Iy c f [] ρ (σ++t)=some (.loc (σ.length+n),σ++u):=by
  have:=Qe (ρ:=ρ) (σ:=σ++t) (c:=c) (es:= []) rfl (hf (σ++t))
  rw[List.length_append,hn,List.append_assoc,hu] at this
  exact this
theorem Pr:EM [.loc σ.length] (σ ++ [.inst "Heap" []])=some (.none,σ++C2 σ.length):=
  GX rfl (EI (D2 (k:=0) (n:=1) (t':= .inst "Heap" [("bank",.loc (σ.length+1))]::(Fl (σ.length+1))) rfl (SL rfl (o:=Fl) (fun _=>U9) rfl) rfl rfl rfl)
    (EI (D2 (k:=0) (n:=6) (t':= .inst "Heap" [("bank",.loc (σ.length+1)),("unions",.loc (σ.length+6))]::(Fl (σ.length+1)++Er (σ.length+6))) rfl (SL rfl (o:=Er) (fun _=>Sc) rfl) rfl rfl rfl)
    (EI (D2 (k:=0) (n:=10) (t':= .inst "Heap" [("bank",.loc (σ.length+1)),("unions",.loc (σ.length+6)),("edges",.loc (σ.length+10))]::(Fl (σ.length+1)++Er (σ.length+6) ++ [SObj.list []])) rfl (FJ rfl) rfl rfl rfl)
    (EI (D2 (k:=0) (n:=11) (t':= .inst "Heap" [("bank",.loc (σ.length+1)),("unions",.loc (σ.length+6)),("edges",.loc (σ.length+10)),("forest",.loc (σ.length+11))]::(Fl (σ.length+1)++Er (σ.length+6) ++ [SObj.list []] ++ [SObj.list []])) rfl (FJ rfl) rfl rfl rfl)
    (EI (D2 (k:=0) (n:=12) (t':= .inst "Heap" [("bank",.loc (σ.length+1)),("unions",.loc (σ.length+6)),("edges",.loc (σ.length+10)),("forest",.loc (σ.length+11)),("known",.loc (σ.length+12))]::(Fl (σ.length+1)++Er (σ.length+6) ++ [SObj.list []] ++ [SObj.list []] ++ [SObj.dict [] 0])) rfl (FJ rfl) rfl rfl rfl)
    (EI (D2 (k:=0) (n:=13) (t':= .inst "Heap" [("bank",.loc (σ.length+1)),("unions",.loc (σ.length+6)),("edges",.loc (σ.length+10)),("forest",.loc (σ.length+11)),("known",.loc (σ.length+12)),("above",.loc (σ.length+13))]::(Fl (σ.length+1)++Er (σ.length+6) ++ [SObj.list []] ++ [SObj.list []] ++ [SObj.dict [] 0] ++ [SObj.dict [] 0])) rfl (FJ rfl) rfl rfl rfl)
    (EI (D2 (k:=0) (n:=14) (t':= .inst "Heap" [("bank",.loc (σ.length+1)),("unions",.loc (σ.length+6)),("edges",.loc (σ.length+10)),("forest",.loc (σ.length+11)),("known",.loc (σ.length+12)),("above",.loc (σ.length+13)),("waiting",.loc (σ.length+14))]::(Fl (σ.length+1)++Er (σ.length+6) ++ [SObj.list []] ++ [SObj.list []] ++ [SObj.dict [] 0] ++ [SObj.dict [] 0] ++ [SObj.list []])) rfl (FJ rfl) rfl rfl rfl)
    ((NH rfl rfl (Dn (k:=0)) (Nat.le_of_ble_eq_true rfl)).trans (congrArg (fun s=>some (Flw.next,_,s)) (Ll (k:=0)))))))))))
noncomputable def DI:AH:={ n:=0,nd:=fun _=>("", []),tm:=fun _=> .none,r:=fun i=>i,A:=fun _=> [],K:=fun _=>none,kn:=0,wt:= [],ed:= [] }
noncomputable def EJ:Lc:={ lo:=fun _=>0,al:=fun _=>0 }
theorem LU {t:Hp}:HeapAt (σ++C2 σ.length++t) σ.length DI EJ:=by
  have no:∀{i:Nat} {P:Prop},i<DI.n→P:=fun h=>absurd h (Nat.not_lt_zero _)
  have g:∀{k o},(C2 σ.length)[k]? =some o→(σ++C2 σ.length)[σ.length+k]? =some o:=fun e=>Dn.trans e
  exact HeapAt.app ⟨g (k:=0) rfl,g rfl,g rfl,⟨0,g rfl⟩,⟨fun _=>0,g rfl⟩,⟨fun _=>0,g rfl⟩,g rfl,⟨fun i=>i,g rfl,fun i hi=>no hi⟩,g rfl,fun i hi=>no hi,⟨[],g rfl,Nat.le_refl _⟩,g rfl,⟨[],g rfl,Nat.le_refl _⟩,
    ⟨[],0,g rfl,rfl,Nat.le_refl _,fun _=>rfl⟩,⟨[],0,g rfl,rfl,List.nodup_nil,Nat.le_refl _,fun c=>(if_neg fun w=>no w.1).symm⟩,fun i hi=>no hi,g rfl,fun i hi=>no hi,fun i hi=>no hi,fun i j hi=>no hi,fun i j hi=>no hi,fun i j hi=>no hi⟩ _
theorem Rq:WF DI 0 R S none:=by
  have no:∀{i:Nat} {P:Prop},i<DI.n→P:=fun h=>absurd h (Nat.not_lt_zero _)
  exact⟨fun i hi=>no hi,fun i hi=>no hi,fun i hi=>no hi,fun i hi=>no hi,fun i j hi=>no hi,fun i hi=>no hi,fun i=>Nat.le_refl _,fun _=>rfl,fun _ _=>rfl,fun i hi=>no hi,fun c x hx=>(nomatch hx),fun x hx=>(nomatch hx),fun x m hx=>(nomatch hx),
    fun i hi=>no hi,fun i j hi=>no hi,fun x m hx=>(nomatch hx),Nat.le_refl _,fun _=>Nat.le_refl _,Nat.zero_le _,Nat.le_refl _,Nat.le_refl _,fun e he=>(nomatch he)⟩
theorem IO {h l:Nat}:BJ h DI EJ l↔h≤l∧l≤h+14:=
  ⟨fun o=>o.elim id fun o=>o.elim (fun o=>o.elim fun i o=>absurd o.1 (Nat.not_lt_zero _)) fun o=>o.elim fun i o=>absurd o.1 (Nat.not_lt_zero _),.inl⟩
theorem Ps (A:HeapAt σ h H L)(W:WF H td R S X):∃t,D4 [.loc h] σ=some (.tup [.loc σ.length,.loc (σ.length+1),.loc (σ.length+2),.loc (σ.length+4)],σ ++ [.list (Aj ((List.range H.n).map H.r)),.list H.ed,.list (Aj H.wt),t,.list (Aj (BK H.n H.r))]):=by
  have hn:=W.nb
  have nl:H.n<lim:=AL (Nat.le_trans hn (by decide))
  have comp:=CJ (tgt:= .name "n") (chk:=none) (elt:=AB "Heap" "find" Bu (Ab "heap") [Ab "n"]) (ρ:= [("heap",.loc h)]) (σ:=σ)
    (g:=fun x=>match x with | .int x=> .int (H.r x.toNat:Int) | v=>v) rfl (Aj (List.range H.n)) (by
      intro x hx
      obtain⟨k,hk,e⟩:=CZ.mp hx
      exact⟨_,rfl,e▸AG rfl A.inst rfl rfl (DZ A hn (List.mem_range.mp hk))⟩)
  have e:(Aj (List.range H.n)).map (fun x=>match x with | .int x=>SV.int (H.r x.toNat:Int) | v=>v)=Aj ((List.range H.n).map H.r):=by rw[Aj,Aj,List.map_map,List.map_map]; rfl
  rw[e] at comp
  have A1:=A.app [.list (Aj ((List.range H.n).map H.r))]
  have A2:=A1.app [.list H.ed]
  have A3:=A2.app [.list (Aj H.wt)]
  refine⟨.list (Aj (BK H.n H.r)),(BF rfl (BC (EV (AA (Cy (HI (AG rfl A.inst rfl rfl (KS A)) nl) comp ((Bh (ks:=(List.range H.n).map H.r)).symm▸(List.length_map (as:=List.range H.n) H.r).symm▸(List.length_range (n:=H.n)).symm▸nl))
    (AA (JM (Bd rfl A1.inst rfl) (Dw A1.edges)) (AA (JM (Bd rfl A2.inst rfl) (Dw A2.waiting)) (AA (JM (AG rfl A3.inst rfl rfl (KU A3 hn)) (Dw AE)) rfl))))))).trans ?_⟩
  simp only[List.length_append,List.append_assoc]
  rfl
end Mine.P
namespace Mine.P
open scoped Classical
variable {σ σ':Hp}{h:Nat}{H:AH}{L:Lc}{td:Nat}{R:SV→SV→Prop}{S:SV→Prop}{X:Option Nat}{cs:List Int}{s s':Nat}
structure Tape (cs:List Int) (σ:Hp) (s:Nat):Prop where
  cells:σ[0]? =some (.list (cs.map SV.int))
  tape:σ[1]? =some (.list [.loc 0,.int (s:Int)])
structure TStep (cs:List Int) (c:Nat) (σ:Hp) (s:Nat) (σ':Hp) (s':Nat):Prop where
  len:σ.length≤σ'.length
  keep:∀l,l<σ.length→l≠1→σ'[l]? =σ[l]?
  tape:Tape cs σ' s'
  lo:s≤s'
  hi:s'≤s+c
theorem TStep.trans {σ₁ σ₂:Hp}{s1 s2 c d:Nat}(a:TStep cs c σ s σ₁ s1)(b:TStep cs d σ₁ s1 σ₂ s2):TStep cs (c+d) σ s σ₂ s2:=
  ⟨Nat.le_trans a.len b.len,fun l hl q=>(b.keep l (Nat.lt_of_lt_of_le hl a.len) q).trans (a.keep l hl q),b.tape,Nat.le_trans a.lo b.lo,Nat.le_trans b.hi (Nat.le_trans (Nat.add_le_add_right a.hi d) (Nat.le_of_eq (Nat.add_assoc ..)))⟩
theorem TStep.refl (T:Tape cs σ s):TStep cs 0 σ s σ s:=⟨Nat.le_refl _,fun _ _ _=>rfl,T,Nat.le_refl _,Nat.le_refl _⟩
theorem TStep.more {c d:Nat}(a:TStep cs c σ s σ' s')(h:c≤d):TStep cs d σ s σ' s':=⟨a.len,a.keep,a.tape,a.lo,Nat.le_trans a.hi (Nat.add_le_add_left h s)⟩
theorem TStep.app {c:Nat}(a:TStep cs c σ s σ' s')(t:Hp):TStep cs c σ s (σ'++t) s':=
  ⟨by rw[List.length_append]; exact Nat.le_trans a.len (Nat.le_add_right ..),fun l hl q=>(List.getElem?_append_left (Nat.lt_of_lt_of_le hl a.len)).trans (a.keep l hl q),⟨Ae a.tape.cells,Ae a.tape.tape⟩,a.lo,a.hi⟩
theorem TY {ρ:Rho}{σ1 σ2:Hp}{a b:Ev}{x y:Int}(ha:a ρ σ=some (.int x,σ1))(hb:b ρ σ1=some (.int y,σ2))(h:x.natAbs<2^60∧y.natAbs<2^60):eOp .mul a b ρ σ=some (.int (x*y),σ2):=FH ha hb (if_pos h)
theorem Wh {ρ:Rho}{σ1 σ2:Hp}{a b:Ev}{x y z:Int}(ha:a ρ σ=some (.int x,σ1))(hb:b ρ σ1=some (.int y,σ2))(h:0<y)(e:x % y=z):eOp .mod a b ρ σ=some (.int z,σ2):=FH ha hb ((if_pos h).trans (congrArg some e))
theorem KW (T:Tape cs σ s)(hs:s<5000){many:Nat}(hm:0<many):∃(v:Nat) (σ':Hp),v<many∧AT [.loc 1,.int (many:Int)] σ=some (.int (v:Int),σ')∧TStep cs 1 σ s σ' (s+1):=by
  have g:(σ.set 1 (.list [.loc 0,.int ((s:Int)+1)]))[1]? =_:=AD T.tape
  have st:TStep cs 1 σ s (σ.set 1 (.list [.loc 0,.int ((s:Int)+1)])) (s+1):=
    ⟨Nat.le_of_eq List.length_set.symm,fun l hl q=>Fk q.symm,⟨sn T.cells (by decide),g⟩,Nat.le_succ s,Nat.le_refl _⟩
  have hm':(0:Int)<(many:Int):=Int.ofNat_lt.mpr hm
  have c0:(σ.set 1 (.list [.loc 0,.int ((s:Int)+1)]))[0]? =some (.list (cs.map SV.int)):=st.tape.cells
  have dsp:∀z:Int,∃v:Nat,v<many∧z % (many:Int)=(v:Int):=fun z=>by
    have h1:=Int.emod_nonneg z (show(many:Int)≠0 by omega)
    have h2:=Int.emod_lt_of_pos z hm'
    exact⟨(z % (many:Int)).toNat,by omega,by omega⟩
  have W:∀{z:Int} {v:Nat},eIf (AJ (AM .lt (Ab "spot") (CD (Ab "cells")))) (Ap (Ab "cells") (Ab "spot")) (eOp .mod (eOp .add (eOp .add (eOp .mul (eOp .mul (Ag (.int 8)) (Ab "spot")) (Ab "spot")) (eOp .mul (Ag (.int 3)) (Ab "spot"))) (Ag (.int 4))) (Ag (.int 83)))
      (Rho.put (Rho.put [("tape",.loc 1),("many",.int many)] "cells" (.loc 0)) "spot" (.int s)) (σ.set 1 (.list [.loc 0,.int ((s:Int)+1)]))=some (.int z,σ.set 1 (.list [.loc 0,.int ((s:Int)+1)]))→
      z % (many:Int)=(v:Int)→AT [.loc 1,.int (many:Int)] σ=some (.int (v:Int),σ.set 1 (.list [.loc 0,.int ((s:Int)+1)])):=fun a b=>
    BF rfl (Bf (Go rfl (Hy T.tape)) (Bf (U2 (FH rfl rfl rfl) rfl rfl T.tape ⟨by decide,(show 1<2 by decide)⟩) (BC (Wh a rfl hm' b))))
  have t:AJ (AM .lt (Ab "spot") (CD (Ab "cells"))) (Rho.put (Rho.put [("tape",.loc 1),("many",.int many)] "cells" (.loc 0)) "spot" (.int s)) (σ.set 1 (.list [.loc 0,.int ((s:Int)+1)]))=some (decide ((s:Int)<(cs.length:Int)),_):=Bq rfl (Dt rfl c0 (List.length_map _)) rfl
  by_cases q:s<cs.length
  · exact(dsp (cs[s])).elim fun v w=>⟨v,_,w.1,W (H5 (t.trans (congrArg (fun b=>some (b,_)) (decide_eq_true (Int.ofNat_lt.mpr q)))) (BN rfl rfl c0 (CX (by rw[List.getElem?_map,List.getElem?_eq_getElem q]; rfl)))) w.2,st⟩
  · have n2:(s:Int).natAbs<2^60:=Nat.lt_of_lt_of_le hs (by decide)
    have n1:(8*(s:Int)).natAbs<2^60:=Nat.lt_of_le_of_lt (Nat.le_of_eq (Int.natAbs_mul ..)) (Nat.lt_of_lt_of_le (Nat.mul_lt_mul_of_pos_left hs (show 0<8 by decide)) (show 8*5000≤2^60 by decide))
    exact(dsp ((8*(s:Int)*(s:Int)+3*(s:Int)+4) % 83)).elim fun v w=>⟨v,_,w.1,W (NG (t.trans (congrArg (fun b=>some (b,_)) (decide_eq_false fun w=>q (Int.ofNat_lt.mp w))))
      (Wh (FH (FH (TY (TY rfl rfl ⟨show 8<2^60 by decide,n2⟩) rfl ⟨n1,n2⟩) (TY rfl rfl ⟨show 3<2^60 by decide,n2⟩) rfl) rfl rfl) rfl (by decide) rfl)) w.2,st⟩
noncomputable def IsT:Nat→SV→Prop
  | 0,v=>∃op,op∈OPS∧v= .tup [.str op]
  | d+1,v=>∃op ks,op∈OPS∧v= .tup (.str op::ks)∧ks.length≤2∧∀k,k∈ks→IsT d k
theorem IsT.up:∀{d:Nat} {v:SV},IsT d v→IsT (d+1) v
  | 0,v,⟨op,h1,h2⟩=>⟨op, [],h1,h2,Nat.zero_le _,fun _ w=>nomatch w⟩
  | d+1,v,⟨op,ks,h1,h2,h3,h4⟩=>⟨op,ks,h1,h2,h3,fun k hk=>(h4 k hk).up⟩
theorem IsT.shape:∀{d:Nat} {v:SV},IsT d v→∃op ks,op∈OPS∧v= .tup (.str op::ks)∧ks.length≤2∧∀k,k∈ks→∃d',d=d'+1∧IsT d' k
  | 0,v,⟨op,h1,h2⟩=>⟨op, [],h1,h2,Nat.zero_le _,fun _ w=>nomatch w⟩
  | d+1,v,⟨op,ks,h1,h2,h3,h4⟩=>⟨op,ks,h1,h2,h3,fun k hk=>⟨d,rfl,h4 k hk⟩⟩
theorem Pt {d:Nat}:∀{ls:List SV},(∀k,k∈ls→k.isKeyD d=true)→SV.areKeysD d ls=true
  | [],_=>rfl
  | _::_,h=>(Bool.and_eq_true_iff).mpr ⟨h _ List.mem_cons_self,Pt fun k hk=>h k (List.mem_cons_of_mem _ hk)⟩
theorem KY:∀{ls:List SV},(∀k,k∈ls→k.isTree=true)→SV.areTrees ls=true
  | [],_=>rfl
  | _::_,h=>(Bool.and_eq_true_iff).mpr ⟨h _ List.mem_cons_self,KY fun k hk=>h k (List.mem_cons_of_mem _ hk)⟩
theorem IsT.key:∀{d:Nat} {v:SV},IsT d v→v.isKeyD (d+1)=true
  | 0,v,⟨op,h1,h2⟩=>h2▸rfl
  | d+1,v,⟨op,ks,h1,h2,h3,h4⟩=>h2▸show SV.areKeysD (d+1) ks=true from Pt fun k hk=>(h4 k hk).key
theorem IsT.tree:∀{d:Nat} {v:SV},IsT d v→v.isTree=true
  | 0,v,⟨op,h1,h2⟩=>h2▸rfl
  | d+1,v,⟨op,ks,h1,h2,h3,h4⟩=>h2▸show SV.areTrees ks=true from KY fun k hk=>(h4 k hk).tree
theorem IsT.tupKey {d:Nat}{v:SV}(h:IsT d v)(hd:d≤4):v.isTupKey=true:=by
  obtain⟨op,ks,h1,h2,h3,h4⟩:=h.shape
  have:=RN (d+1) (DD+1) v (Nat.succ_le_succ (Nat.le_trans hd (by decide))) h.key
  subst h2
  exact this
theorem Va {ρ:Rho}{σ σ':Hp}{v:Nat}(hv:v<3)(ht:ρ.lookup "tape" =some (.loc 1))(e:AT [.loc 1,.int (3:Nat)] σ=some (.int (v:Int),σ')):
    ∃op,op∈OPS∧Bw [(Ap (Ag (.str "abc")) (Bj AT [(Ab "tape"),(Ag (.int 3))]))] ρ σ=some (.tup [.str op],σ'):=by
  have pk:Bj AT [(Ab "tape"),(Ag (.int 3))] ρ σ=some (.int (v:Int),σ'):=Di (AA (Ao ht) rfl) e
  have it:∀{w:String},IT (.str "abc") (.int (v:Int)) σ'=some (.str w,σ')→Bw [(Ap (Ag (.str "abc")) (Bj AT [(Ab "tape"),(Ag (.int 3))]))] ρ σ=some (.tup [.str w],σ'):=fun h=>EV (AA (Xx rfl pk h) rfl)
  match v,hv, @it with
  | 0,_,it=>exact⟨"a",by decide,it rfl⟩
  | 1,_,it=>exact⟨"b",by decide,it rfl⟩
  | 2,_,it=>exact⟨"c",by decide,it rfl⟩
theorem Rr:∀(d f:Nat),d<f→∀{σ:Hp} {s:Nat},Tape cs σ s→s+3^(d+1)≤5000→∃v σ' s',CB f [.loc 1,.int (d:Int)] σ=some (v,σ')∧IsT d v∧TStep cs (3^(d+1)) σ s σ' s'
  | d,0,hf,_,_,_,_=>absurd hf (Nat.not_lt_zero _)
  | d,f+1,hf,σ,s,T,hs=>by
    have p3:0<3^(d+1):=Nat.pow_pos (by decide)
    have s5:s<5000:=Nat.lt_of_lt_of_le (Nat.lt_add_of_pos_right p3) hs
    cases d with
    | zero=>
      obtain⟨v,σ',hv,e,st⟩:=KW T s5 (many:=3) (by decide)
      obtain⟨op,ho,w⟩:=Va (ρ:=Rho.put [("tape",.loc 1),("deep",.int 0)] "way" (.int 0)) hv rfl e
      exact⟨_,σ',_,BF rfl (CT rfl (Jj (FG rfl (BC w)))),⟨op,ho,rfl⟩,st.more (by decide)⟩
    | succ d=>
      obtain⟨w,σ1,hw,e1,st1⟩:=KW T s5 (many:=6) (by decide)
      have W:∀{v ρ' τ},(AC (xIf (AJ (AM .lt (Ab "way") (Ag (.int 3))))
          (BH (Bw [(Ap (Ag (.str "abc")) (Bj AT [(Ab "tape"),(Ag (.int 3))]))]))
          Ck)
          (BH (eOp .add (Bw [(eIf (AJ (AM .lt (Ab "way") (Ag (.int 5)))) (Ag (.str "f")) (Ag (.str "h")))]) (CL (Bb ["deep", "tape"] (.name "turn") (EC (eIf (AJ (AM .eq (Ab "way") (Ag (.int 3)))) (Ag (.int 1)) (Ag (.int 2)))) [] (Bj (CB f) [(Ab "tape"),(eOp .sub (Ab "deep") (Ag (.int 1)))]))))))
          (Rho.put [("tape",.loc 1),("deep",.int ((d+1:Nat):Int))] "way" (.int w)) σ1=some (.ret v,ρ',τ)→CB (f+1) [.loc 1,.int ((d+1:Nat):Int)] σ=some (v,τ):=fun b=>BF rfl (CT (H5 (σ1:=σ) (congrArg (fun b=>some (b,σ)) (decide_eq_true (Int.ofNat_lt.mpr (Nat.succ_pos d)))) (Di rfl e1)) b)
      have lw:∀{n:Nat},w<n→AJ (AM .lt (Ab "way") (Ag (.int n))) (Rho.put [("tape",.loc 1),("deep",.int ((d+1:Nat):Int))] "way" (.int w)) σ1=some (true,σ1):=fun q=>congrArg (fun b=>some (b,σ1)) (decide_eq_true (Int.ofNat_lt.mpr q))
      have nw:∀{n:Nat},¬ w<n→AJ (AM .lt (Ab "way") (Ag (.int n))) (Rho.put [("tape",.loc 1),("deep",.int ((d+1:Nat):Int))] "way" (.int w)) σ1=some (false,σ1):=fun q=>congrArg (fun b=>some (b,σ1)) (decide_eq_false fun v=>q (Int.ofNat_lt.mp v))
      have e4:3^(d+1+1)=3^(d+1)*3:=Nat.pow_succ ..
      have p4:0<3^(d+1):=Nat.pow_pos (by decide)
      by_cases q:w<3
      · obtain⟨v,σ',hv,e,st⟩:=KW st1.tape (by omega) (many:=3) (by decide)
        obtain⟨op,ho,w⟩:=Va (ρ:=Rho.put [("tape",.loc 1),("deep",.int ((d+1:Nat):Int))] "way" (.int w)) hv rfl e
        exact⟨_,σ',_,W (Jj (FG (lw q) (BC w))),⟨op, [],ho,rfl,Nat.zero_le _,fun _ w=>nomatch w⟩,(st1.trans st).more (by omega)⟩
      ·
        have kids:∀{m:Nat},m≤2→∃vs σ',Cu (.name "turn") none [] (Bj (CB f) [(Ab "tape"),(eOp .sub (Ab "deep") (Ag (.int 1)))]) [("deep",.int ((d+1:Nat):Int)),("tape",.loc 1)] (Aj (List.range m)) σ1=some (vs,σ')∧
            vs.length=m∧(∀k,k∈vs→IsT d k)∧∃s',TStep cs (m*3^(d+1)) σ1 (s+1) σ' s':=by
          intro m hm
          obtain⟨vs,σ',g1,g2,g3,s',g4⟩:=GV (tgt:= .name "turn") (chk:=none) (ts:= []) (elt:=Bj (CB f) [(Ab "tape"),(eOp .sub (Ab "deep") (Ag (.int 1)))]) (ρ:= [("deep",.int ((d+1:Nat):Int)),("tape",.loc 1)])
            (fun xs acc τ=>acc.length+xs.length=m∧(∀k,k∈acc→IsT d k)∧∃s',TStep cs (acc.length*3^(d+1)) σ1 (s+1) τ s') (fun _ _ _ _=>rfl) (by
              intro x xs acc τ hI
              obtain⟨g2,g3,s',g4⟩:=hI
              rw[List.length_cons] at g2
              have bnd:acc.length*3^(d+1)≤1*3^(d+1):=Nat.mul_le_mul_right _ (by omega)
              have hi:=g4.hi
              obtain⟨v,τ',s'',r1,r2,r3⟩:=Rr d f (Nat.lt_of_succ_lt_succ hf) g4.tape (by omega)
              refine⟨_,true,τ,rfl,rfl,fun _=>⟨v,τ',Di (AA rfl (AA (FH rfl rfl (congrArg some (Int.add_sub_cancel (d:Int) 1))) rfl)) r1,?_,fun k hk=>E6 hk (g3 k) fun w=>w▸r2,s'',?_⟩,nofun⟩
              · rw[List.length_append]; exact(Nat.add_assoc ..).trans ((congrArg _ (Nat.add_comm ..)).trans g2)
              · rw[List.length_append,Nat.add_mul]; exact(g4.trans r3).more (Nat.add_le_add_left (Nat.le_of_eq (Nat.one_mul _).symm) _)) (Aj (List.range m)) [] σ1 ⟨(Nat.zero_add _).trans (Bh.trans List.length_range),fun _ w=>(nomatch w),s+1,(TStep.refl st1.tape).more (Nat.zero_le _)⟩
          rw[List.nil_append] at g2 g3 g4
          exact⟨vs,σ',g1,g2,g3,s',g2▸g4⟩
        have fin:∀{m:Nat} {op:String},m≤2→op∈OPS→eIf (AJ (AM .lt (Ab "way") (Ag (.int 5)))) (Ag (.str "f")) (Ag (.str "h")) (Rho.put [("tape",.loc 1),("deep",.int ((d+1:Nat):Int))] "way" (.int w)) σ1=some (.str op,σ1)→
            eIf (AJ (AM .eq (Ab "way") (Ag (.int 3)))) (Ag (.int 1)) (Ag (.int 2)) (Rho.put [("tape",.loc 1),("deep",.int ((d+1:Nat):Int))] "way" (.int w)) σ1=some (.int m,σ1)→
            ∃v σ' s',CB (f+1) [.loc 1,.int ((d+1:Nat):Int)] σ=some (v,σ')∧IsT (d+1) v∧TStep cs (3^(d+1+1)) σ s σ' s':=by
          intro m op hm ho h1 h2
          obtain⟨vs,σ',k1,k2,k3,s',k4⟩:=kids hm
          have hv:vs.length≤2:=k2.symm▸hm
          have:=Nat.mul_le_mul_right (3^(d+1)) hm
          exact⟨_,_,s',W (Bf (DY (nw q) rfl) (BC (ND (EV (AA h1 rfl)) (Jk (Cy (HI h2 (AL (Nat.le_trans hm (by decide)))) k1 (AL (Nat.le_trans hv (by decide)))) AE) (AL (Nat.le_trans (Nat.add_le_add_left hv 1) (by decide)))))),
            ⟨op,vs,ho,rfl,hv,k3⟩,((st1.trans k4).app _).more (by omega)⟩
        by_cases q3:w=3
        · exact fin (m:=1) (by decide) (op:= "f") (by decide) (H5 (lw (n:=5) (q3▸(by decide))) rfl) (H5 (Bq rfl rfl (Iq (congrArg _ q3))) rfl)
        · have t2:=fun o a b=>fin (m:=2) (by decide) (op:=o) a b (NG (Bq rfl rfl (JL (Dm (b:=3) q3))) rfl)
          by_cases q5:w<5
          · exact t2 "f" (by decide) (H5 (lw q5) rfl)
          · exact t2 "h" (by decide) (NG (nw q5) rfl)
end Mine.P
namespace Mine.P
open scoped Classical
variable {σ σ':Hp}{h:Nat}{H:AH}{L:Lc}{td:Nat}{R:SV→SV→Prop}{S:SV→Prop}{X:Option Nat}{cs:List Int}{s s':Nat}
noncomputable def Fz:SV→List SV
  | .tup (_::ks)=>ks
  | _=> []
structure GT (xs:List SV):Prop where
  isT:∀x,x∈xs→IsT 2 x
  nodup:xs.Nodup
  kids:∀(i:Nat) (x:SV),xs[i]? =some x→∀k,k∈Fz x→∃j,j<i∧xs[j]? =some k
theorem XQ:GT []:=⟨nofun,List.nodup_nil,nofun⟩
theorem JR {k m:Nat}{x:SV}(hx:x.isKeyD m=true)(hk:k≤Cs)(hm:m≤Cs){xs:List SV}:(∀y,y∈xs→y.isKeyD k=true)→C9 σ x xs=some (decide (x∈xs)):=by
  induction xs with
  | nil=>exact fun _=>congrArg some (decide_eq_false List.not_mem_nil).symm
  | cons y ys ih=>
    intro h
    show LX or (EW σ y x) (C9 σ x ys)=_
    rw[Q9 (h y List.mem_cons_self) hx hk hm,ih fun z hz=>h z (List.mem_cons_of_mem _ hz)]
    refine congrArg some ?_
    rw[←Bool.decide_or]
    exact HY (List.mem_cons.trans (or_congr_left eq_comm)).symm
theorem IsT.mono {d e:Nat}(h:d≤e){v:SV}(t:IsT d v):IsT e v:=by
  induction h with
  | refl=>exact t
  | step _ ih=>exact ih.up
noncomputable def sz:Nat→Nat
  | 0=>1
  | d+1=>1+2*sz d
theorem WX {xs:List SV}{x:SV}(G:GT xs)(hx:IsT 2 x)(hn:x∉xs)(hk:∀k,k∈Fz x→k∈xs):GT (xs ++ [x]):=by
  refine⟨fun y hy=>E6 hy (G.isT y) fun w=>w▸hx,List.nodup_append.mpr ⟨G.nodup,List.nodup_cons.mpr ⟨List.not_mem_nil,List.nodup_nil⟩,fun u hu v hv q=>hn (List.mem_singleton.mp hv▸q▸hu)⟩,fun i y hy k hk'=>?_⟩
  by_cases q:i<xs.length
  · rw[List.getElem?_append_left q] at hy
    exact(G.kids i y hy k hk').imp fun j w=>⟨w.1,(List.getElem?_append_left (Nat.lt_trans w.1 q)).trans w.2⟩
  · have hi:=(List.getElem?_eq_some_iff.mp hy).1
    rw[List.length_append] at hi
    have e:i=xs.length:=Nat.le_antisymm (Nat.le_of_lt_succ hi) (Nat.le_of_not_lt q)
    subst e
    have ey:x=y:=Option.some.inj ((List.getElem?_concat_length (l:=xs) (a:=x)).symm.trans hy)
    subst ey
    exact(List.getElem?_of_mem (hk k hk')).elim fun j hj=>have w:=(List.getElem?_eq_some_iff.mp hj).1; ⟨j,w,(List.getElem?_append_left w).trans hj⟩
theorem Rt {l:Nat}{o:SObj}(h:σ[l]? =some o):σ.set l o=σ:=by
  apply List.ext_getElem?
  intro j
  by_cases q:l=j
  · subst q; rw[AD h,h]
  · rw[Fk q]
theorem Ru {l:Nat}{xs:List SV}{x:SV}{b:Bool}(hl:σ[l]? =some (.list xs))(h:C9 σ x xs=some b):Cp .notin x (.loc l) σ=some !b:=by
  refine Cx (F:=(!·)) ?_
  show(match σ[l]? with | some (.list xs)=>C9 σ x xs | some (.dict kvs _)=>if Bz x kvs then some ((kvs.lookup x).isSome) else none | _=>none)=_
  rw[hl]; exact h
theorem NO:∀(d f:Nat),d<f→d≤2→∀{σ:Hp} {l:Nat} {xs:List SV} {v:SV},IsT d v→σ[l]? =some (.list xs)→GT xs→xs.length+sz d≤60→
    ∃ys,CO f [v,.loc l] σ=some (.none,σ.set l (.list (xs++ys)))∧GT (xs++ys)∧v∈xs++ys∧ys.length≤sz d
  | d,0,hf,_,_,_,_,_,_,_,_,_=>absurd hf (Nat.not_lt_zero _)
  | d,f+1,hf,hd,σ,l,xs,v,hv,hl,G,hs=>by
    obtain⟨op,ks,ho,rfl,h2,hk⟩:=hv.shape
    obtain⟨ρ',σ',g1,ys,g3,g4,g5,g6,g7,g8⟩:=CC (tgt:= .name "kid") (chk:=none) (body:=Bl (Bj (CO f) [(Ab "kid"),(Ab "found")]))
      (fun zs ρ τ=>∃ys,τ=σ.set l (.list (xs++ys))∧(ρ.lookup "tree" =some (.tup (.str op::ks))∧ρ.lookup "found" =some (.loc l))∧GT (xs++ys)∧(∀k,k∈ks→k∈xs++ys∨k∈zs)∧(∀k,k∈zs→k∈ks)∧ys.length+zs.length*sz (d-1)≤ks.length*sz (d-1)) (fun _ _ _ _=>rfl) (by
        intro x zs ρ τ hI
        obtain⟨ys,rfl,g3,g4,g5,g6,g8⟩:=hI
        obtain⟨d',rfl,hx⟩:=hk x (g6 x List.mem_cons_self)
        rw[List.length_cons,Nat.add_sub_cancel] at g8
        have e1:(zs.length+1)*sz d'=zs.length*sz d'+sz d':=Nat.succ_mul ..
        have e2:ks.length*sz d'≤2*sz d':=Nat.mul_le_mul_right _ h2
        have e3:sz (d'+1)=1+2*sz d':=rfl
        obtain⟨ws,r1,r2,r3,r4⟩:=NO d' f (Nat.lt_of_succ_lt_succ hf) (Nat.le_of_succ_le hd) (σ:=σ.set l (.list (xs++ys))) (l:=l) (xs:=xs++ys) hx (AD hl) g4 (by rw[List.length_append]; clear g3 g4 g5 g6 hk hv ho hx; omega)
        rw[List.set_set,List.append_assoc] at r1
        rw[List.append_assoc] at r2 r3
        refine⟨_,_,_,rfl,Ek (Di (AA (Ao AP) (AA (Ao (Au g3.2 (by decide))) rfl)) r1) rfl,ys++ws,rfl,⟨Au g3.1 (by decide),Au g3.2 (by decide)⟩,r2,fun k hk'=>?_,fun k hk=>g6 k (List.mem_cons_of_mem _ hk),?_⟩
        · rw[←List.append_assoc]
          exact(g5 k hk').elim (fun w=> .inl (List.mem_append_left _ w)) fun w=>FU w (fun w=> .inl (w▸List.append_assoc xs ys ws▸r3)) .inr
        · rw[List.length_append,Nat.add_sub_cancel,Nat.add_assoc]
          exact Nat.le_trans (Nat.add_le_add_left (Nat.le_trans (Nat.add_le_add_right r4 _) (Nat.le_of_eq ((Nat.add_comm ..).trans e1.symm))) _) g8) ks [("tree",.tup (.str op::ks)),("found",.loc l)] σ
      ⟨[],by rw[List.append_nil]; exact(Rt hl).symm,⟨rfl,rfl⟩,(List.append_nil xs).symm▸G,fun k hk=> .inr hk,fun _ w=>w,Nat.le_of_eq (Nat.zero_add _)⟩
    subst g3
    have gk:∀k,k∈ks→k∈xs++ys:=fun k hk=>(g6 k hk).resolve_right List.not_mem_nil
    have ylen:ys.length+1≤sz d:=by
      cases d with
      | zero=>
        have:ks= []:=List.eq_nil_iff_forall_not_mem.mpr fun k w=>(hk k w).elim fun d' q=>nomatch q.1
        subst this; exact Nat.succ_le_succ (Nat.le_trans (Nat.le_add_right ..) (Nat.le_trans g8 (Nat.le_of_eq (Nat.zero_mul _))))
      | succ d=>exact Nat.le_trans (Nat.succ_le_succ (Nat.le_trans (Nat.le_add_right ..) (Nat.le_trans g8 (Nat.mul_le_mul_right _ h2)))) (Nat.le_of_eq (show 2*sz d+1=1+2*sz d from Nat.add_comm ..))
    have yl:=Nat.le_of_succ_le ylen
    have hl':=AD (o:= .list (xs++ys)) hl
    have iv:=JR (σ:=σ.set l (.list (xs++ys))) (k:=3) (x:= .tup (.str op::ks)) (hv.mono hd).key (by decide) (by decide) (xs:=xs++ys) fun y hy=>(g5.isT y hy).key
    have W:∀{r},xIf (AJ (AM .notin (Ab "tree") (Ab "found"))) (Bl (B6 (Ab "found") (Ab "tree"))) Ck ρ' (σ.set l (.list (xs++ys)))=some (.next,ρ',r)→CO (f+1) [.tup (.str op::ks),.loc l] σ=some (.none,r):=
      fun b=>GX rfl (Bf (FI (Cf (HZ rfl ⟨Nat.succ_le_succ (Nat.zero_le _),AL (Nat.le_trans (Nat.succ_le_succ h2) (by decide))⟩) (DP (AL (Nat.le_trans h2 (by decide))))) g1) b)
    by_cases q:SV.tup (.str op::ks)∈xs++ys
    · rw[decide_eq_true q] at iv
      exact⟨ys,W (DY (Bq (Ao g4.1) (Ao g4.2) (Ru hl' iv)) rfl),g5,q,yl⟩
    · rw[decide_eq_false q] at iv
      have ll:(xs++ys).length<lim:=AL (by rw[List.length_append]; exact Nat.le_trans (Nat.add_le_add_left yl _) (Nat.le_trans hs (by decide)))
      refine⟨ys ++ [.tup (.str op::ks)],?_,List.append_assoc xs ys _▸WX g5 (hv.mono hd) q gk,List.mem_append_right _ Hg,by rw[List.length_append]; exact ylen⟩
      exact W ((FG (Bq (Ao g4.1) (Ao g4.2) (Ru hl' iv)) (Ek (CY (Ao g4.2) hl' (Ao g4.1) hl' ll) rfl)).trans (by rw[List.set_set,List.append_assoc]))
end Mine.P
namespace Mine.P
open scoped Classical
variable {σ σ':Hp}{h:Nat}{H:AH}{L:Lc}{td:Nat}{R:SV→SV→Prop}{S:SV→Prop}{X:Option Nat}{cs:List Int}{s s':Nat}
noncomputable def Rv (H:AH)(x:SV):Nat:=((List.range H.n).find? fun i=>decide (H.tm i=x)).getD 0
theorem OG (inj:∀i j,i<H.n→j<H.n→H.tm i=H.tm j→i=j){k:Nat}(hk:k<H.n):Rv H (H.tm k)=k:=by
  unfold Rv
  cases e:(List.range H.n).find? (fun i=>decide (H.tm i=H.tm k)) with
  | none=>
    have:=List.find?_eq_none.mp e k (List.mem_range.mpr hk)
    simp at this
  | some i=>
    have h1:=List.find?_some e
    have h2:=List.mem_range.mp (List.mem_of_find?_eq_some e)
    simp only[decide_eq_true_eq] at h1
    exact inj i k h2 hk h1
theorem Vb (inj:∀i j,i<H.n→j<H.n→H.tm i=H.tm j→i=j){ks:List Nat}(hk:∀k,k∈ks→k<H.n):(ks.map H.tm).map (fun x=>SV.int (Rv H x:Int))=Aj ks:=by
  unfold Aj
  rw[List.map_map]
  apply List.map_congr_left
  intro k hk'
  simp[OG inj (hk k hk')]
theorem SM:∀(d f:Nat),d<f→∀{σ:Hp},HeapAt σ h H L→WF H td R S X→∀{j:Nat},j<H.n→IsT d (H.tm j)→∃t,C4 f [.loc h,H.tm j] σ=some (.int (j:Int),σ++t)
  | d,0,hf,_,_,_,_,_,_=>absurd hf (Nat.not_lt_zero _)
  | d,f+1,hf,σ,A,W,j,hj,hT=>by
    have e:=W.tmE j hj
    have h2:=W.two j hj
    have hlt:∀k,k∈(H.nd j).2→k<H.n:=fun k hk=>W.kidn hj hk
    have kT:∀k,k∈(H.nd j).2→∃d',d=d'+1∧IsT d' (H.tm k):=by
      intro k hk
      obtain⟨op,ks,h1,e2,h3,h4⟩:=hT.shape
      rw[e] at e2
      exact h4 _ ((List.cons.inj (SV.tup.inj e2)).2▸List.mem_map_of_mem hk)
    obtain⟨t,comp⟩:=IN (tgt:= .name "part") (chk:=none) (elt:=AB "Heap" "put" (C4 f) (Ab "self") [Ab "part"]) (ρ:= [("self",.loc h)]) (σ:=σ) (g:=fun x=> .int (Rv H x:Int)) (fun _=>rfl) ((H.nd j).2.map H.tm) [] (by
      intro x hx t
      obtain⟨k,hk,rfl⟩:=List.mem_map.mp hx
      obtain⟨d',rfl,hT'⟩:=kT k hk
      have At:=A.app t
      obtain⟨t',r⟩:=SM d' f (by omega) At W (hlt k hk) hT'
      exact⟨_,t',rfl,by rw[OG W.inj (hlt k hk)]; exact AG rfl At.inst rfl rfl r⟩)
    rw[Vb W.inj hlt,List.append_nil] at comp
    have A2:=(A.app t).app [.list (Aj (H.nd j).2)]
    have ad:=SG A2 h2 W.nb hj (op:=(H.nd j).1) (ks:=(H.nd j).2) rfl fun i hi q=>W.nd_inj hi hj q
    have two:((H.nd j).2.map H.tm).length≤2:=(List.length_map (as:=(H.nd j).2) H.tm).symm▸h2
    rw[e]
    exact⟨_,(BF rfl (BC (AG rfl A.inst rfl (AA (Dl rfl rfl (by decide) rfl) (AA (Jk (Cy (Cf (HZ rfl ⟨Nat.succ_le_succ (Nat.zero_le _),AL (Nat.le_trans (Nat.succ_le_succ two) (by decide))⟩) (DP (AL (Nat.le_trans two (by decide))))) comp (En h2)) AE) rfl)) ad))).trans (congrArg (fun s=>some (SV.int (j:Int),s)) (List.append_assoc ..))⟩
theorem WY (C:Cong R S)(htd:td≤1000)(A:HeapAt σ h H L)(W:WF H td R S none){d f:Nat}(hf:d<f){v:SV}(hT:IsT d v)(hS:S v)(hn:H.n<40)(hk:∀k,k∈Fz v→∃i,i<H.n∧H.tm i=k):
    ∃j σ' H' L',C4 f [.loc h,v] σ=some (.int (j:Nat),σ')∧HeapAt σ' h H' L'∧WF H' td R S none∧Step h H L σ H' L' σ'∧Le H H'∧j<H'.n∧H'.tm j=v∧((H'.n=H.n∧j<H.n)∨(H'.n=H.n+1∧j=H.n)):=by
  obtain⟨op,ks,ho,e,h2,hkT⟩:=hT.shape
  cases f with
  | zero=>exact absurd hf (Nat.not_lt_zero _)
  | succ f=>
    have hk':∀k,k∈ks→∃i,i<H.n∧H.tm i=k:=fun k hk''=>hk k (by rw[e]; exact hk'')
    have en:∃ls:List Nat,ks=ls.map H.tm∧∀k,k∈ls→k<H.n:=by
      clear h2 e hk hkT
      induction ks with
      | nil=>exact⟨[],rfl,by simp⟩
      | cons k ks ih=>
        obtain⟨ls,e1,e2⟩:=ih fun k hk=>hk' k (List.mem_cons_of_mem _ hk)
        obtain⟨i,hi,ei⟩:=hk' k List.mem_cons_self
        exact⟨i::ls,by rw[e1, ←ei]; rfl,fun k hk=>(List.mem_cons.mp hk).elim (fun w=>w▸hi) (e2 k)⟩
    obtain⟨ls,el,hlt⟩:=en
    subst el
    have h2':ls.length≤2:=by simpa using h2
    obtain⟨t,comp⟩:=IN (tgt:= .name "part") (chk:=none) (elt:=AB "Heap" "put" (C4 f) (Ab "self") [Ab "part"]) (ρ:= [("self",.loc h)]) (σ:=σ) (g:=fun x=> .int (Rv H x:Int)) (fun _=>rfl) (ls.map H.tm) [] (by
      intro x hx t
      obtain⟨d',rfl,hT'⟩:=hkT x hx
      obtain⟨k,hk,rfl⟩:=List.mem_map.mp hx
      have At:=A.app t
      obtain⟨t',r⟩:=SM d' f (by omega) At W (hlt k hk) hT'
      exact⟨_,t',rfl,by rw[OG W.inj (hlt k hk)]; exact AG rfl At.inst rfl rfl r⟩)
    rw[Vb W.inj hlt,List.append_nil] at comp
    have two:(ls.map H.tm).length≤2:=h2
    have A2:=(A.app t).app [.list (Aj ls)]
    obtain⟨j,σ',H',L',r1,r2,r3,r4,r5,r6,r7,r8,r9⟩:=Ro C htd A2 W ho h2' hlt (.inl hn) (e▸hS)
    refine⟨j,σ',H',L',?_,r2,r3,Step.app.trans (Step.app.trans r4),r5,r6,r8.trans e.symm,r9.imp_right fun w=>⟨w.1,w.2.1⟩⟩
    rw[e]
    exact BF rfl (BC (AG rfl A.inst rfl (AA (Dl rfl rfl (by decide) rfl) (AA (Jk (Cy (Cf (HZ rfl ⟨Nat.succ_le_succ (Nat.zero_le _),AL (Nat.le_trans (Nat.succ_le_succ two) (by decide))⟩) (DP (AL (Nat.le_trans two (by decide))))) comp (En h2')) AE) rfl)) r1))
theorem GI {ps:List (SV×SV)}:∀{d:List (SV×SV)},(∀p,p∈ps→p.1.isTupKey=true)→d.all (fun x=>x.1.isTupKey)=true→((d++ps).map (·.1)).Nodup→d.length+ps.length<lim→
    Es (ps.map fun p=>SV.tup [p.1,p.2]) d=some (d++ps):=by
  induction ps with
  | nil=>exact fun _ _ _ _=>congrArg some (List.append_nil _).symm
  | cons p ps ih=>
    intro d hk hd hn hl
    have kk:p.1.isTupKey=true:=hk p List.mem_cons_self
    rw[List.length_cons] at hl
    have ds:=Ez (v:=p.2) (D8 kk hd) (by omega)
    have new:d.lookup p.1=none:=by
      apply Em
      intro q
      rw[List.map_append] at hn
      exact(List.nodup_append.mp hn).2.2 p.1 q p.1 (by simp) rfl
    rw[GY new] at ds
    have all:(d ++ [(p.1,p.2)]).all (fun x=>x.1.isTupKey)=true:=by rw[List.all_append,hd]; simp[kk]
    have ih:=ih (d:=d ++ [(p.1,p.2)]) (fun p hp=>hk p (List.mem_cons_of_mem _ hp)) all (by simpa using hn) (by rw[List.length_append,List.length_singleton]; omega)
    show(if p.1.isTupKey=true then BP (dictSet p.1 p.2 d) _ else none)=_
    rw[if_pos kk,ds]
    exact ih.trans (congrArg some (List.append_assoc ..))
end Mine.P
namespace Mine.P
open scoped Classical
variable {σ σ':Hp}{h:Nat}{H:AH}{L:Lc}{td:Nat}{R:SV→SV→Prop}{S:SV→Prop}{X:Option Nat}{cs:List Int}{s s':Nat}
noncomputable def LC (xs:List SV)(T:List (SV×SV))(x y:SV):Prop:=∀R:SV→SV→Prop,Cong R (fun v=>v∈xs)→(∀p,p∈T→R p.1 p.2)→R x y
theorem Jl {xs:List SV}{T:List (SV×SV)}:Cong (LC xs T) fun v=>v∈xs:=
  ⟨fun x R C _=>C.refl x,fun a R C h=>C.symm (a R C h),fun a b R C h=>C.trans (a R C h) (b R C h),fun a b l k R C h=>C.cong a b l fun t u v hu hv=>k t u v hu hv R C h⟩
theorem SN {xs:List SV}{T:List (SV×SV)}{p:SV×SV}(h:p∈T):LC xs T p.1 p.2:=fun R _ q=>q p h
theorem Cong.sub {xs ys:List SV}(C:Cong R fun v=>v∈ys)(h:∀x,x∈xs→x∈ys):Cong R fun v=>v∈xs:=⟨C.refl,C.symm,C.trans,fun a b l k=>C.cong (h _ a) (h _ b) l k⟩
theorem WF.weaken {R':SV→SV→Prop}(W:WF H td R S X)(hr:∀x y,R x y→R' x y):WF H td R' S X:=
  { W with
    snd:=fun i j hi hj e=>hr _ _ (W.snd i j hi hj e)
    ksnd:=fun x m e=>⟨(W.ksnd x m e).1,(W.ksnd x m e).2.1,fun t u v hu hv=>⟨((W.ksnd x m e).2.2 t u v hu hv).1,hr _ _ ((W.ksnd x m e).2.2 t u v hu hv).2⟩⟩ }
noncomputable def X9:Ex:=Bi (.pair "heap" "some") (Bw [(Iy "Heap" EM []),(Cc [])])
noncomputable def Yb:Ex:=Bi (.name "trees") (Bb ["tape"] (.name "turn") (EC (eOp .add (Ag (.int 1)) (Bj AT [(Ab "tape"),(Ag (.int 2))]))) [] (Bj (CB 4) [(Ab "tape"),(Ag (.int 2))]))
noncomputable def Yc:Ex:=CN (.name "tree") (Bn (Ab "trees")) (Bl (Bj (CO 4) [(Ab "tree"),(Ab "some")]))
noncomputable def Yd:Ex:=Bi (.name "numbers") (EK (Bb ["heap"] (.name "tree") (Bn (Ab "some")) [] (Bw [(Ab "tree"),(AB "Heap" "put" (C4 4) (Ab "heap") [(Ab "tree")])])))
noncomputable def Ye:Ex:=Bi (.name "told") (Bb ["some", "tape"] (.name "turn") (EC (Bj AT [(Ab "tape"),(Ag (.int 3))])) [] (Bw [(Ap (Ab "some") (Bj AT [(Ab "tape"),(CD (Ab "some"))])),(Ap (Ab "some") (Bj AT [(Ab "tape"),(CD (Ab "some"))]))]))
noncomputable def Yg:Ex:=CN (.pair "high" "low") (Bn (Ab "told")) (Bl (AB "Heap" "merge" DE (Ab "heap") [(Ap (Ab "numbers") (Ab "high")),(Ap (Ab "numbers") (Ab "low")),(Bw [(Ag (.str "told")),(Ag (.str "s"))])]))
noncomputable def Yh:Ex:=xIf (AJ (AM .eq (Bj AT [(Ab "tape"),(Ag (.int 2))]) (Ag (.int 0)))) (Bl (AB "Heap" "settle" ED (Ab "heap") [])) Ck
theorem V3:X9 [("tape",.loc 1)] σ=some (.next,Rho.put (Rho.put [("tape",.loc 1)] "heap" (.loc σ.length)) "some" (.loc (σ.length+15)),σ++C2 σ.length ++ [.list []]):=
  (Go (EV (AA (Qe rfl Pr) (AA rfl rfl))) rfl).trans (congrArg (fun n=>some (Flw.next,Rho.put (Rho.put [("tape",.loc 1)] "heap" (.loc σ.length)) "some" (.loc n),_)) List.length_append)
theorem V4 (T:Tape cs σ s)(hs:s≤2000){ρ:Rho}(ht:ρ.lookup "tape" =some (.loc 1)):∃vs σ' s',Yb ρ σ=some (.next,Rho.put ρ "trees" (.loc (σ'.length-1)),σ')∧σ'[σ'.length-1]? =some (.list vs)∧σ.length<σ'.length∧σ.length≤σ'.length-1∧TStep cs 60 σ s σ' s'∧1≤vs.length∧vs.length≤2∧∀v,v∈vs→IsT 2 v:=by
  obtain⟨w,σ1,hw,e1,st1⟩:=KW T (Nat.lt_of_le_of_lt hs (by decide)) (many:=2) (by decide)
  have w1:=Nat.le_of_lt_succ hw
  obtain⟨vs,σ2,g1,g2,g3,s2,g4⟩:=GV (tgt:= .name "turn") (chk:=none) (ts:= []) (elt:=Bj (CB 4) [(Ab "tape"),(Ag (.int 2))]) (ρ:= [("tape",.loc 1)])
    (fun xs acc τ=>acc.length+xs.length=w+1∧(∀k,k∈acc→IsT 2 k)∧∃s',TStep cs (acc.length*27) σ1 (s+1) τ s') (fun _ _ _ _=>rfl) (by
      intro x xs acc τ hI
      obtain⟨g2,g3,s',g4⟩:=hI
      rw[List.length_cons] at g2
      have bnd:acc.length*27≤1*27:=Nat.mul_le_mul_right _ (Nat.le_trans (Nat.le_add_right _ xs.length) (Nat.le_trans (Nat.le_of_eq (Nat.succ.inj g2)) w1))
      have hi:s'+27≤5000:=Nat.le_trans (Nat.add_le_add_right (Nat.le_trans g4.hi (Nat.add_le_add (Nat.succ_le_succ hs) bnd)) 27) (by decide)
      obtain⟨v,τ',s'',r1,r2,r3⟩:=Rr 2 4 (by decide) g4.tape hi
      refine⟨_,true,τ,rfl,rfl,fun _=>⟨v,τ',Di rfl r1,?_,fun k hk=>E6 hk (g3 k) fun w=>w▸r2,s'',?_⟩,nofun⟩
      · rw[List.length_append]; exact(Nat.add_assoc ..).trans ((congrArg _ (Nat.add_comm ..)).trans g2)
      · rw[List.length_append,Nat.add_mul]; exact g4.trans r3) (Aj (List.range (w+1))) [] σ1 ⟨(Nat.zero_add _).trans (Bh.trans List.length_range),fun _ w=>(nomatch w),s+1,(TStep.refl st1.tape).more (Nat.zero_le _)⟩
  rw[List.nil_append] at g2 g3 g4
  have hl:vs.length=w+1:=g2
  have hv:vs.length≤2:=hl.symm▸Nat.succ_le_succ w1
  have st2:=(st1.trans g4).app [.list vs]
  have le:=(st1.trans g4).len
  have l1:(σ2 ++ [SObj.list vs]).length=σ2.length+1:=List.length_append
  have l2:(σ2 ++ [SObj.list vs]).length-1=σ2.length:=l1▸rfl
  have rg:EC (eOp .add (Ag (.int 1)) (Bj AT [(Ab "tape"),(Ag (.int 2))])) ρ σ=some (((List.range (w+1)).map fun(i:Nat)=>SV.int (i:Int),none),σ1):=
    HI (FH rfl (Di (AA (Ao ht) rfl) e1) (congrArg some (Int.add_comm 1 (w:Int)))) (AL (Nat.le_trans (Nat.succ_le_succ w1) (by decide)))
  refine⟨vs,σ2 ++ [.list vs],s2,?_,l2.symm▸AE,l1▸Nat.lt_succ_of_le le,l2.symm▸le,st2.more (Nat.le_trans (Nat.add_le_add_left (Nat.mul_le_mul_right 27 hv) 1) (by decide)),hl.symm▸Nat.succ_pos w,hv,g3⟩
  rw[l2]
  exact Gn (Cy rg (by rw[BW ht]; exact g1) (AL (Nat.le_trans hv (by decide))))
theorem V5 {lt ls:Nat}{vs:List SV}(h1:σ[lt]? =some (.list vs))(h2:σ[ls]? =some (.list []))(hne:lt≠ls)(hv:∀v,v∈vs→IsT 2 v)(hl:1≤vs.length∧vs.length≤2){ρ:Rho}(q1:ρ.lookup "trees" =some (.loc lt))(q2:ρ.lookup "some" =some (.loc ls)):
    ∃ρ' xs,Yc ρ σ=some (.next,ρ',σ.set ls (.list xs))∧(∀y,y≠ "tree" →ρ'.lookup y=ρ.lookup y)∧GT xs∧xs.length≤14∧xs≠ []:=by
  obtain⟨ρ',σ',g1,xs,rfl,g3,g4,g5,g6,_⟩:=CC (tgt:= .name "tree") (chk:=some (lt,.list vs)) (body:=Bl (Bj (CO 4) [(Ab "tree"),(Ab "some")]))
    (fun zs ρ' τ=>∃xs,τ=σ.set ls (.list xs)∧(∀y,y≠ "tree" →ρ'.lookup y=ρ.lookup y)∧GT xs∧xs.length+7*zs.length≤7*vs.length∧(xs= []→zs=vs)∧∀z,z∈zs→z∈vs)
    (fun zs ρ' τ hI=>hI.elim fun xs w=>decide_eq_true (w.1▸sn h1 hne.symm)) (by
      intro z zs ρ' τ hI
      obtain⟨xs,rfl,g3,g4,g5,g6,g7⟩:=hI
      rw[List.length_cons] at g5
      have hb:7*vs.length≤7*2:=Nat.mul_le_mul_left 7 hl.2
      obtain⟨ys,r1,r2,r3,r4⟩:=NO 2 4 (by decide) (by decide) (hv z (g7 z List.mem_cons_self)) (AD h2) g4 (Nat.le_trans (Nat.add_le_add_right (Nat.le_trans (Nat.le_add_right ..) (Nat.le_trans g5 hb)) _) (show 7*2+sz 2≤60 by decide))
      rw[List.set_set] at r1
      have q2':=(g3 "some" (by decide)).trans q2
      refine⟨_,_,_,rfl,Ek (Di (AA (Ao AP) (AA (Ao (Au q2' (by decide))) rfl)) r1) rfl,xs++ys,rfl,fun y hy=>by rw[AK,if_neg hy,g3 y hy],r2,?_,fun q=>(by rw[q] at r3; exact nomatch r3),fun z' hz=>g7 z' (List.mem_cons_of_mem _ hz)⟩
      rw[List.length_append,Nat.add_assoc]
      exact Nat.le_trans (Nat.add_le_add_left (Nat.le_trans (Nat.add_le_add_right r4 _) (Nat.le_of_eq (Nat.add_comm ..))) _) g5) vs ρ σ ⟨[],(Rt h2).symm,fun _ _=>rfl,XQ,Nat.le_of_eq (Nat.zero_add _),fun _=>rfl,fun _ w=>w⟩
  refine⟨ρ',xs,FI (Cf (Ao q1) (D7 h1)) g1,g3,g4,Nat.le_trans g5 (Nat.mul_le_mul_left 7 hl.2),fun q=>?_⟩
  have:=g6 q
  rw[←this] at hl; exact nomatch hl.1
theorem V6 {R:SV→SV→Prop}{xs:List SV}(C:Cong R fun v=>v∈xs)(G:GT xs)(hl:xs.length≤14){ls:Nat}(h1:σ[ls]? =some (.list xs))(A:HeapAt σ h DI EJ)(ho:¬ BJ h DI EJ ls){ρ:Rho}(q1:ρ.lookup "heap" =some (.loc h))(q2:ρ.lookup "some" =some (.loc ls)):
    ∃σ' H L,Yd ρ σ=some (.next,Rho.put ρ "numbers" (.loc (σ'.length-1)),σ')∧HeapAt σ' h H L∧WF H 0 R (fun v=>v∈xs) none∧Step h DI EJ σ H L σ'∧H.n=xs.length∧(∀i,i<H.n→xs[i]? =some (H.tm i))∧
      (∃ver,σ'[σ'.length-1]? =some (.dict (rng H.n fun i=>(H.tm i,.int (i:Int))) ver))∧¬ BJ h H L (σ'.length-1)∧σ.length≤σ'.length-1∧σ.length<σ'.length:=by
  obtain⟨vs,σ1,g1,H,L,g2,g3,g4,g5,g6,g7⟩:=GV (tgt:= .name "tree") (chk:=some (ls,.list xs)) (ts:= []) (elt:=Bw [(Ab "tree"),(AB "Heap" "put" (C4 4) (Ab "heap") [(Ab "tree")])]) (ρ:= [("heap",.loc h)])
    (fun zs acc τ=>∃H L,HeapAt τ h H L∧WF H 0 R (fun v=>v∈xs) none∧Step h DI EJ σ H L τ∧zs=xs.drop H.n∧(∀i,i<H.n→xs[i]? =some (H.tm i))∧H.n≤xs.length∧acc=rng H.n fun i=>SV.tup [H.tm i,.int (i:Int)])
    (fun zs acc τ hI=>hI.elim fun H w=>w.elim fun L w=>decide_eq_true ((w.2.2.1.keep ls (AN h1) ho).1.trans h1)) (by
      intro z zs acc τ hI
      obtain⟨H,L,g2,g3,g4,g5,g6,g7,rfl⟩:=hI
      have hn:H.n<xs.length:=by
        rcases Nat.lt_or_ge H.n xs.length with w | w
        · exact w
        · rw[List.drop_eq_nil_of_le w] at g5; exact nomatch g5
      rw[List.drop_eq_getElem_cons hn] at g5
      obtain⟨rfl,rfl⟩:=List.cons.inj g5
      have hz:xs[H.n]? =some xs[H.n]:=List.getElem?_eq_getElem hn
      have hT:=G.isT _ (List.mem_of_getElem? hz)
      obtain⟨j,τ',H',L',r1,r2,r3,r4,r5,r6,r7,r8⟩:=WY C (Nat.zero_le _) g2 g3 (d:=2) (f:=4) (by decide) hT (List.mem_of_getElem? hz) (Nat.lt_of_lt_of_le hn (Nat.le_trans hl (by decide)))
        fun k hk=>(G.kids _ _ hz k hk).elim fun i w=>⟨i,w.1,Option.some.inj ((g6 i w.1).symm.trans w.2)⟩
      have new:H'.n=H.n+1∧j=H.n:=by
        rcases r8 with⟨w1,w2⟩ | w
        · have a2:=g6 j w2
          rw[←r5.tm j w2,r7] at a2
          exact absurd ((List.getElem?_inj (Nat.lt_trans w2 hn) G.nodup).mp (a2.trans hz.symm)) (Nat.ne_of_lt w2)
        · exact w
      obtain⟨en,rfl⟩:=new
      refine⟨_,true,τ,rfl,rfl,fun _=>⟨.tup [xs[H.n],.int (H.n:Int)],τ',EV (AA rfl (AA (AG rfl g2.inst rfl rfl r1) rfl)),H',L',r2,r3,g4.trans r4,by rw[en],fun i hi=>?_,en.symm▸hn,?_⟩,nofun⟩
      · by_cases q:i=H.n
        · rw[q,r7]; exact hz
        · have hi:=CE (en▸hi) q
          rw[r5.tm i hi]; exact g6 i hi
      · rw[en,ME,r7]
        exact congrArg (· ++ _) (It fun i hi=>by rw[r5.tm i hi])) xs [] σ ⟨DI,EJ,A,Rq,Step.refl,rfl,fun i hi=>absurd hi (Nat.not_lt_zero _),Nat.zero_le _,rfl⟩
  have hn:H.n=xs.length:=Nat.le_antisymm g7.1 (List.drop_eq_nil_iff.mp g5.symm)
  obtain⟨g7,rfl⟩:=g7
  have hn2:H.n≤14:=hn.symm▸hl
  have fill:Es (rng H.n fun i=>SV.tup [H.tm i,.int (i:Int)]) []=some (rng H.n fun i=>(H.tm i,SV.int (i:Int))):=by
    have:=GI (ps:=rng H.n fun i=>(H.tm i,SV.int (i:Int))) (d:= []) (fun p hp=>(HJ.mp hp).elim fun i w=>w.2▸(G.isT _ (List.mem_of_getElem? (g6 i w.1))).tupKey (by decide)) rfl (by
      rw[List.nil_append,GG]
      exact List.pairwise_map.mpr (List.nodup_range.imp_of_mem fun {a b} ha hb hne q=>hne (g3.inj a b (List.mem_range.mp ha) (List.mem_range.mp hb) q))) (AL (by rw[B8]; exact Nat.le_trans (Nat.add_le_add_left hn2 0) (by decide)))
    rw[GG,List.nil_append] at this
    exact this
  have len:=g4.len
  have l1:(σ1 ++ [SObj.list (rng H.n fun i=>SV.tup [H.tm i,.int (i:Int)])]).length=σ1.length+1:=List.length_append
  have l2:(σ1 ++ [SObj.list (rng H.n fun i=>SV.tup [H.tm i,.int (i:Int)])] ++ [SObj.dict (rng H.n fun i=>(H.tm i,SV.int (i:Int))) 0]).length-1=σ1.length+1:=l1▸(congrArg (· - 1) List.length_append)
  have l3:(σ1 ++ [SObj.list (rng H.n fun i=>SV.tup [H.tm i,.int (i:Int)])] ++ [SObj.dict (rng H.n fun i=>(H.tm i,SV.int (i:Int))) 0]).length=σ1.length+1+1:=l1▸List.length_append
  refine⟨_,H,L,?_,(g2.app _).app _,g3,(g4.trans Step.app).trans Step.app,hn,g6,⟨0,l2.symm▸l1▸AE⟩,fun o=>?_,l2.symm▸Nat.le_succ_of_le len,l3.symm▸Nat.lt_succ_of_le (Nat.le_succ_of_le len)⟩
  · rw[l2, ←l1]
    exact Gn (MD (Cy (Cf (Ao q2) (D7 h1)) (by rw[BW q1]; exact g1) (AL (B8.symm▸Nat.le_trans hn2 (by decide)))) AE fill)
  · rw[l2] at o
    exact Nat.not_succ_le_self _ (Nat.le_of_lt (g2.high o))
end Mine.P
namespace Mine.P
open scoped Classical
variable {σ σ':Hp}{h:Nat}{H:AH}{L:Lc}{td:Nat}{R:SV→SV→Prop}{S:SV→Prop}{X:Option Nat}{cs:List Int}{s s':Nat}
noncomputable def AX (p:SV×SV):SV:= .tup [p.1,p.2]
theorem V7 (T:Tape cs σ s)(hs:s≤3000){ls:Nat}{xs:List SV}(h1:σ[ls]? =some (.list xs))(hls:ls≠1)(hx:xs≠ []){ρ:Rho}(q1:ρ.lookup "tape" =some (.loc 1))(q2:ρ.lookup "some" =some (.loc ls)):
    ∃(told:List (SV×SV)) (σ':Hp) (s':Nat),Ye ρ σ=some (.next,Rho.put ρ "told" (.loc (σ'.length-1)),σ')∧σ'[σ'.length-1]? =some (.list (told.map AX))∧σ.length≤σ'.length-1∧σ.length<σ'.length∧TStep cs 10 σ s σ' s'∧told.length≤2∧∀p,p∈told→p.1∈xs∧p.2∈xs:=by
  obtain⟨w,σ1,hw,e1,st1⟩:=KW T (Nat.lt_of_le_of_lt hs (by decide)) (many:=3) (by decide)
  have w2:=Nat.le_of_lt_succ hw
  have xl:0<xs.length:=List.length_pos_iff.mpr hx
  obtain⟨vs,σ2,g1,told,g2,g3,g4,s2,g5⟩:=GV (tgt:= .name "turn") (chk:=none) (ts:= []) (elt:=Bw [(Ap (Ab "some") (Bj AT [(Ab "tape"),(CD (Ab "some"))])),(Ap (Ab "some") (Bj AT [(Ab "tape"),(CD (Ab "some"))]))]) (ρ:= [("some",.loc ls),("tape",.loc 1)])
    (fun zs acc τ=>∃told:List (SV×SV),acc=told.map AX∧told.length+zs.length=w∧(∀p,p∈told→p.1∈xs∧p.2∈xs)∧∃s',TStep cs (told.length*2) σ1 (s+1) τ s') (fun _ _ _ _=>rfl) (by
      intro x zs acc τ hI
      obtain⟨told,rfl,g3,g4,s2,g5⟩:=hI
      have tl:told.length≤2:=Nat.le_trans (Nat.le_add_right ..) (Nat.le_trans (Nat.le_of_eq g3) w2)
      have look:∀{τ:Hp} {c s2:Nat},TStep cs c σ1 (s+1) τ s2→τ[ls]? =some (.list xs):=fun st=>(st.keep ls (Nat.lt_of_lt_of_le (AN h1) st1.len) hls).trans ((st1.keep ls (AN h1) hls).trans h1)
      have hi:s2+1<5000:=Nat.lt_of_le_of_lt (Nat.succ_le_succ (Nat.le_trans g5.hi (Nat.add_le_add (Nat.succ_le_succ hs) (Nat.mul_le_mul_right 2 tl)))) (by decide)
      obtain⟨a,τ1,ha,r1,t1⟩:=KW g5.tape (Nat.lt_of_succ_lt hi) (many:=xs.length) xl
      have s3:=g5.trans t1
      obtain⟨b,τ2,hb,r2,t2⟩:=KW t1.tape hi (many:=xs.length) xl
      have ga:xs[a]? =some xs[a]:=List.getElem?_eq_getElem ha
      have gb:xs[b]? =some xs[b]:=List.getElem?_eq_getElem hb
      have pk:∀{σ:Hp} {r},σ[ls]? =some (.list xs)→AT [.loc 1,.int (xs.length:Nat)] σ=some r→Bj AT [(Ab "tape"),(CD (Ab "some"))] (Rho.put [("some",.loc ls),("tape",.loc 1)] "turn" x) σ=some r:=fun h e=>Di (AA rfl (AA (Dt rfl h rfl) rfl)) e
      refine⟨_,true,τ,rfl,rfl,fun _=>⟨AX (xs[a],xs[b]),τ2,EV (AA (BN rfl (pk (look g5) r1) (look s3) (CX ga)) (AA (BN rfl (pk (look s3) r2) (look (s3.trans t2)) (CX gb)) rfl)),told ++ [(xs[a],xs[b])],(List.map_append (f:=AX) (l₁:=told) (l₂:= [(xs[a],xs[b])])).symm,?_,fun p hp=>E6 hp (g4 p) fun w=>w▸⟨List.mem_of_getElem? ga,List.mem_of_getElem? gb⟩,s2+1+1,?_⟩,nofun⟩
      · rw[List.length_append]; exact(Nat.add_assoc ..).trans ((congrArg _ (Nat.add_comm ..)).trans g3)
      · rw[List.length_append,Nat.add_mul]; exact s3.trans t2) (Aj (List.range w)) [] σ1 ⟨[],rfl,(Nat.zero_add _).trans (Bh.trans List.length_range),fun _ w=>(nomatch w),s+1,TStep.refl st1.tape⟩
  rw[List.nil_append] at g2
  subst g2
  have hl:told.length≤2:=Nat.le_trans (Nat.le_of_eq g3) w2
  have len:=(st1.trans g5).len
  have l1:(σ2 ++ [SObj.list (told.map AX)]).length=σ2.length+1:=List.length_append
  have l2:(σ2 ++ [SObj.list (told.map AX)]).length-1=σ2.length:=l1▸rfl
  refine⟨told,σ2 ++ [.list (told.map AX)],s2,?_,l2.symm▸AE,l2.symm▸len,l1▸Nat.lt_succ_of_le len,((st1.trans g5).app _).more (Nat.le_trans (Nat.add_le_add_left (Nat.mul_le_mul_right 2 hl) 1) (by decide)),hl,g4⟩
  rw[l2]
  exact Gn (Cy (HI (Di (AA (Ao q1) rfl) e1) (AL (Nat.le_trans w2 (by decide)))) (by rw[BW q2,BW q1]; exact g1) (AL (by rw[List.length_map]; exact Nat.le_trans hl (by decide))))
theorem WZ:∃d,∀σ,BV 8 σ (.tup [.str "told",.str "s"])=some d:=⟨_,fun _=>rfl⟩
theorem V8 {xs:List SV}{told:List (SV×SV)}(C:Cong R fun v=>v∈xs)(G:GT xs)(hR:∀p,p∈told→R p.1 p.2)(hx:∀p,p∈told→p.1∈xs∧p.2∈xs)(hl:told.length≤2)(A:HeapAt σ h H L)(W:WF H 0 R (fun v=>v∈xs) none)
    (en:H.n=xs.length) (tmx:∀i,i<H.n→xs[i]? =some (H.tm i)) {lt ln ver:Nat} (h1:σ[lt]? =some (.list (told.map AX))) (h2:σ[ln]? =some (.dict (rng H.n fun i=>(H.tm i,.int (i:Int))) ver)) (o1:¬ BJ h H L lt) (o2:¬ BJ h H L ln)
    {ρ:Rho} (q1:ρ.lookup "heap" =some (.loc h)) (q2:ρ.lookup "numbers" =some (.loc ln)) (q3:ρ.lookup "told" =some (.loc lt)):
    ∃ρ' σ' H' L',Yg ρ σ=some (.next,ρ',σ')∧(∀y,y≠ "high" →y≠ "low" →ρ'.lookup y=ρ.lookup y)∧HeapAt σ' h H' L'∧WF H' 2 R (fun v=>v∈xs) none∧Step h H L σ H' L' σ'∧Le H H'∧H'.n=H.n∧
      ∀p,p∈told→∃i j,i<H.n∧j<H.n∧H.tm i=p.1∧H.tm j=p.2∧H'.r i=H'.r j:=by
  have find:∀x,x∈xs→∃i,i<H.n∧H.tm i=x:=fun x hx=>(List.getElem?_of_mem hx).elim fun i hi=>have hn:=en.symm▸(List.getElem?_eq_some_iff.mp hi).1; ⟨i,hn,Option.some.inj ((tmx i hn).symm.trans hi)⟩
  have tk:∀{x},x∈xs→x.isTupKey=true:=fun h=>(G.isT _ h).tupKey (by decide)
  have all:(rng H.n fun i=>(H.tm i,SV.int (i:Int))).all (fun x=>x.1.isTupKey)=true:=List.all_eq_true.mpr fun x hx=>(HJ.mp hx).elim fun i w=>w.2▸tk (List.mem_of_getElem? (tmx i w.1))
  have lk:∀{i:Nat},i<H.n→(rng H.n fun i=>(H.tm i,SV.int (i:Int))).lookup (H.tm i)=some (.int (i:Int)):=fun hi=>
    NI (f:=H.tm) (g:=fun i=>SV.int (i:Int)) hi fun a ha q=>W.inj a _ ha hi q
  obtain⟨ρ',σ',g1,H',L',td',rest,g2,g3,g4,g5,g6,g7,g8,g9,g10,_⟩:=CC (tgt:= .pair "high" "low") (chk:=some (lt,.list (told.map AX))) (body:=Bl (AB "Heap" "merge" DE (Ab "heap") [(Ap (Ab "numbers") (Ab "high")),(Ap (Ab "numbers") (Ab "low")),(Bw [(Ag (.str "told")),(Ag (.str "s"))])]))
    (fun zs ρ' τ=>∃H' L' td' rest,zs=rest.map AX∧(∀y,y≠ "high" →y≠ "low" →ρ'.lookup y=ρ.lookup y)∧HeapAt τ h H' L'∧WF H' td' R (fun v=>v∈xs) none∧Step h H L σ H' L' τ∧Le H H'∧H'.n=H.n∧td'+rest.length=told.length∧
      (∀p,p∈told→p∈rest∨∃i j,i<H.n∧j<H.n∧H.tm i=p.1∧H.tm j=p.2∧H'.r i=H'.r j)∧∀p,p∈rest→p∈told)
    (fun zs ρ' τ hI=>hI.elim fun H' w=>w.elim fun L' w=>w.elim fun td' w=>w.elim fun rest w=>decide_eq_true ((w.2.2.2.2.1.keep lt (AN h1) o1).1.trans h1)) (by
      intro z zs ρ' τ hI
      obtain⟨H',L',td',rest,g2,g3,g4,g5,g6,g7,g8,g9,g10,g11⟩:=hI
      cases rest with
      | nil=>exact nomatch g2
      | cons p rest=>
        obtain⟨rfl,rfl⟩:=List.cons.inj g2
        have pt:=g11 p List.mem_cons_self
        obtain⟨x1,x2⟩:=hx p pt
        obtain⟨i,hi,ei⟩:=find _ x1
        obtain⟨j,hj,ej⟩:=find _ x2
        have n2:=(g6.keep ln (AN h2) o2).1.trans h2
        have Rij:R (H'.tm i) (H'.tm j):=by rw[g7.tm i hi,g7.tm j hj,ei,ej]; exact hR p pt
        have tle:td'+1+rest.length=told.length:=(Nat.succ_add_eq_add_succ ..).trans g9
        obtain⟨v,τ',H2,L2,r1,r2,r3,r4,r5,r6,r7⟩:=NN C (Nat.le_trans (Nat.le_trans (Nat.le_add_right ..) (Nat.le_trans (Nat.le_of_eq g9) hl)) (by decide)) g4 g5 (a:=i) (b:=j) (x:= .tup [.str "told",.str "s"]) (g8.symm▸hi) (g8.symm▸hj) Rij WZ
        have a1:=(g3 "heap" (by decide) (by decide)).trans q1
        have a2:=(g3 "numbers" (by decide) (by decide)).trans q2
        have p1:=Au (x:= "low") (v:=p.2) (Au (x:= "high") (v:=p.1) a1 (by decide)) (by decide)
        have p2:=Au (x:= "low") (v:=p.2) (Au (x:= "high") (v:=p.1) a2 (by decide)) (by decide)
        exact⟨_,_,τ',rfl,Ek (AG (Ao p1) g4.inst rfl (AA (Fj (Ao p2) (Ao (Au AP (by decide))) n2 (D8 (tk x1) all) (ei▸lk hi)) (AA (Fj (Ao p2) (Ao AP) n2 (D8 (tk x2) all) (ej▸lk hj)) (AA rfl rfl))) r1) rfl,H2,L2,td'+1,rest,rfl,
          fun y h1 h2=>by rw[AK,if_neg h2,AK,if_neg h1,g3 y h1 h2],r2,r3,g6.trans r4,g7.trans r5,r6.trans g8,tle,fun q hq=>(g10 q hq).elim (fun w=>FU w (fun w=> .inr ⟨i,j,hi,hj,w▸ei,w▸ej,r7⟩) .inl)
            fun w=> .inr (w.imp fun a w=>w.imp fun b w=>⟨w.1,w.2.1,w.2.2.1,w.2.2.2.1,r5.r a b (g8.symm▸w.1) (g8.symm▸w.2.1) w.2.2.2.2⟩),fun q hq=>g11 q (List.mem_cons_of_mem _ hq)⟩)
    (told.map AX) ρ σ ⟨H,L,0,told,rfl,fun _ _ _=>rfl,A,W,Step.refl,Le.refl,rfl,Nat.zero_add _,fun p hp=> .inl hp,fun _ w=>w⟩
  have er:rest= []:=by
    cases rest with
    | nil=>rfl
    | cons=>exact nomatch g2
  subst er
  exact⟨ρ',σ',H',L',FI (Cf (Ao q3) (D7 h1)) g1,g3,g4,g5.more (Nat.le_trans (Nat.le_of_eq g9) hl),g6,g7,g8,fun p hp=>(g10 p hp).resolve_left List.not_mem_nil⟩
theorem HeapAt.draw {c:Nat}(A:HeapAt σ h H L)(T:TStep cs c σ s σ' s')(hh:2≤h):HeapAt σ' h H L:=A.frame fun l o hl=>T.keep l hl fun q=>Nat.not_lt_of_le (Nat.le_trans hh (A.low o)) (q▸Nat.lt_succ_self 1)
theorem Step.draw {c:Nat}{H:AH}(T:TStep cs c σ s σ' s'):∀l,l<σ.length→l≠1→σ'[l]? =σ[l]?:=T.keep
structure SideR (cs:List Int) (σ:Hp) (s:Nat) (σ':Hp) (s':Nat) (xs:List SV) (told:List (SV×SV)) (H:AH) (L:Lc) (ln lt:Nat):Prop where
  len:σ.length≤σ'.length
  keep:∀l,l<σ.length→l≠1→σ'[l]? =σ[l]?
  tape:Tape cs σ' s'
  hi:s'≤s+100
  gt:GT xs
  xl:xs.length≤14
  heap:HeapAt σ' σ.length H L
  wf:WF H 2 (LC xs told) (fun v=>v∈xs) none
  n:H.n=xs.length
  tm:∀i,i<H.n→xs[i]? =some (H.tm i)
  nums:∃ver,σ'[ln]? =some (.dict (rng H.n fun i=>(H.tm i,.int (i:Int))) ver)
  tolds:σ'[lt]? =some (.list (told.map AX))
  toldIn:∀p,p∈told→∃i j,i<H.n∧j<H.n∧H.tm i=p.1∧H.tm j=p.2∧H.r i=H.r j
  toldLen:told.length≤2
  lnown:¬ BJ σ.length H L ln
  ltown:¬ BJ σ.length H L lt
  lnlo:σ.length≤ln
  ltlo:σ.length≤lt
theorem TStep.kp {c n:Nat}(T:TStep cs c σ s σ' s'):Kp (fun l=>l=1∨n≤l) σ σ':=⟨T.len,fun l hl q=>T.keep l hl fun e=>q (.inl e)⟩
theorem Step.kp {n:Nat}{H':AH}{L':Lc}(A:HeapAt σ n H L)(S:Step n H L σ H' L' σ'):Kp (fun l=>l=1∨n≤l) σ σ':=⟨S.len,fun l hl q=>(S.keep l hl fun o=>q (.inr (A.low o))).1⟩
theorem Step.tape {n:Nat}{H':AH}{L':Lc}(A:HeapAt σ n H L)(S:Step n H L σ H' L' σ')(h:2≤n)(T:Tape cs σ s):Tape cs σ' s:=
  have k:∀{l o},l<2→σ[l]? =some o→σ'[l]? =some o:=fun hl e=>(S.keep _ (AN e) fun o=>Nat.not_lt_of_le (Nat.le_trans h (A.low o)) hl).1.trans e
  ⟨k (by decide) T.cells,k (by decide) T.tape⟩
theorem Rw (T:Tape cs σ s)(hs:s≤1000):∃xs told H L ln lt σ' s',FY [.loc 1] σ=some (.tup [.loc σ.length,.loc ln,.loc lt],σ')∧SideR cs σ s σ' s' xs told H L ln lt:=by
  have h2:2≤σ.length:=AN T.tape
  have n1:∀{l},σ.length≤l→l≠1:=fun h q=>Nat.not_lt_of_le (Nat.le_trans h2 h) (q▸Nat.lt_succ_self 1)
  have e1:=V3 (σ:=σ)
  have s1:(σ++C2 σ.length ++ [SObj.list []])[σ.length+15]? =some (.list []):=(congrArg (fun n=>(σ++C2 σ.length ++ [SObj.list []])[n]?) (List.length_append (as:=σ) (bs:=C2 σ.length)).symm).trans AE
  have A1:=LU (σ:=σ) (t:= [.list []])
  have K1:Kp (fun l=>l=1∨σ.length≤l) σ (σ++C2 σ.length ++ [SObj.list []]):=Kp.refl.app.app
  have T1:Tape cs (σ++C2 σ.length ++ [SObj.list []]) s:=⟨Ae (Ae T.cells),Ae (Ae T.tape)⟩
  generalize σ++C2 σ.length ++ [SObj.list []]=σ1 at e1 s1 A1 K1 T1
  obtain⟨vs,σ2,s2,e2,v1,v2,v3,T2,v4,v5,v6⟩:=V4 T1 (Nat.le_trans hs (by decide)) (ρ:=Rho.put (Rho.put [("tape",.loc 1)] "heap" (.loc σ.length)) "some" (.loc (σ.length+15))) rfl
  have A2:=A1.draw T2 h2
  have s2':σ2[σ.length+15]? =some (.list []):=(T2.keep _ (AN s1) (n1 (Nat.le_add_right ..))).trans s1
  obtain⟨ρ3,xs,e3,l3,G,xl,xne⟩:=V5 v1 s2' (Nat.ne_of_gt (Nat.lt_of_lt_of_le (AN s1) v3)) v6 ⟨v4,v5⟩ (ρ:=Rho.put (Rho.put (Rho.put [("tape",.loc 1)] "heap" (.loc σ.length)) "some" (.loc (σ.length+15))) "trees" (.loc (σ2.length-1))) rfl rfl
  have K3:Kp (fun l=>l=1∨σ.length≤l) σ (σ2.set (σ.length+15) (.list xs)):=(K1.trans T2.kp).set (.inr (Nat.le_add_right ..))
  have ow3:¬ BJ σ.length DI EJ (σ.length+15):=fun o=>Nat.not_succ_le_self _ (IO.mp o).2
  have A3:HeapAt (σ2.set (σ.length+15) (.list xs)) σ.length DI EJ:=A2.frame fun l o _=>Fk fun q=>ow3 (q▸o)
  have s3:=AD (o:= .list xs) s2'
  have T3:Tape cs (σ2.set (σ.length+15) (.list xs)) s2:=⟨sn T2.tape.cells (Nat.ne_of_gt (Nat.succ_pos _)),sn T2.tape.tape (n1 (Nat.le_add_right ..))⟩
  generalize σ2.set (σ.length+15) (.list xs)=σ3 at e3 K3 A3 s3 T3
  have a3:=l3 "heap" (by decide); have b3:=l3 "some" (by decide); have c3:=l3 "tape" (by decide)
  obtain⟨σ4,H4,L4,e4,A4,W4,S4,n4,tm4,⟨ver,num4⟩,o4,lo4,lt4⟩:=V6 (R:=LC xs []) Jl G xl s3 A3 ow3 a3 b3
  have T4:=S4.tape A3 h2 T3
  have s4:=(S4.keep _ (AN s3) ow3).1.trans s3
  have K4:=K3.trans (S4.kp A3)
  have lnlo:σ.length≤σ4.length-1:=Nat.le_trans K3.len lo4
  generalize σ4.length-1=ln at *
  have i2:s2≤s+60:=T2.hi
  obtain⟨told,σ5,s5,e5,t5,lo5,lt5,T5,tl,tin⟩:=V7 T4 (Nat.le_trans i2 (Nat.le_trans (Nat.add_le_add_right hs _) (by decide))) s4 (n1 (Nat.le_add_right ..)) xne (ρ:=Rho.put ρ3 "numbers" (.loc ln)) (Au c3 (by decide)) (Au b3 (by decide))
  have ltlo:σ4.length≤σ5.length-1:=lo5
  generalize σ5.length-1=lt at *
  have A5:=A4.draw T5 h2
  have num5:=(T5.keep _ (AN num4) (n1 lnlo)).trans num4
  have W5:WF H4 0 (LC xs told) (fun v=>v∈xs) none:=W4.weaken fun x y q R C k=>q R C nofun
  have o5:¬ BJ σ.length H4 L4 lt:=fun o=>Nat.not_lt_of_le ltlo (A4.high o)
  obtain⟨ρ6,σ6,H6,L6,e6,l6,A6,W6,S6,le6,n6,toldR⟩:=V8 (Jl (xs:=xs) (T:=told)) G (fun p hp=>SN hp) tin tl A5 W5 n4 tm4 t5 num5 o5 o4 (ρ:=Rho.put (Rho.put ρ3 "numbers" (.loc ln)) "told" (.loc lt)) (Au (Au a3 (by decide)) (by decide)) (Au AP (by decide)) AP
  have T6:=S6.tape A5 h2 T5.tape
  have a6:=(l6 "heap" (by decide) (by decide)).trans (Au (Au a3 (by decide)) (by decide)); have b6:=(l6 "numbers" (by decide) (by decide)).trans (Au AP (by decide)); have c6:=(l6 "told" (by decide) (by decide)).trans AP; have d6:=(l6 "tape" (by decide) (by decide)).trans (Au (Au c3 (by decide)) (by decide))
  have i5:s5≤s+70:=Nat.le_trans T5.hi (Nat.add_le_add_right i2 10)
  obtain⟨w,σ7,hw,e7,T7⟩:=KW T6 (Nat.lt_of_le_of_lt i5 (Nat.lt_of_le_of_lt (Nat.add_le_add_right hs _) (by decide))) (many:=2) (by decide)
  have A7:=A6.draw T7 h2
  have num6:=S6.keep ln (AN num5) o4
  have old6:=S6.keep lt (AN t5) o5
  have num7:=(T7.keep _ (AN (num6.1.trans num5)) (n1 lnlo)).trans (num6.1.trans num5)
  have ltlo':σ.length≤lt:=Nat.le_trans K4.len ltlo
  have old7:=(T7.keep _ (AN (old6.1.trans t5)) (n1 ltlo')).trans (old6.1.trans t5)
  have K7:=((K4.trans T5.kp).trans (S6.kp A5)).trans T7.kp
  have tm6:∀i,i<H6.n→xs[i]? =some (H6.tm i):=fun i hi=>(tm4 i (n6▸hi)).trans (congrArg some (le6.tm i (n6▸hi)).symm)
  have pk:Bj AT [(Ab "tape"),(Ag (.int 2))] ρ6 σ6=some (.int (w:Int),σ7):=Di (AA (Ao d6) rfl) e7
  have fin:∀{σ8 H8 L8},Yh ρ6 σ6=some (.next,ρ6,σ8)→HeapAt σ8 σ.length H8 L8→WF H8 2 (LC xs told) (fun v=>v∈xs) none→Step σ.length H6 L6 σ7 H8 L8 σ8→Le H6 H8→H8.n=H6.n→
      ∃xs told H L ln lt σ' s',FY [.loc 1] σ=some (.tup [.loc σ.length,.loc ln,.loc lt],σ')∧SideR cs σ s σ' s' xs told H L ln lt:=by
    intro σ8 H8 L8 e8 A8 W8 S8 le8 n8
    have K8:=K7.trans (S8.kp A7)
    have on8:=S8.keep ln (AN num7) num6.2
    have ot8:=S8.keep lt (AN old7) old6.2
    refine⟨xs,told,H8,L8,ln,lt,σ8,s5+1,BF rfl (Bf e1 (Bf e2 (Bf e3 (Bf e4 (Bf e5 (Bf e6 (Bf e8 (BC (EV (AA (Ao a6) (AA (Ao b6) (AA (Ao c6) rfl)))))))))))),?_⟩
    exact⟨K8.len,fun l hl q=>K8.keep l hl fun w=>w.elim q (Nat.not_le_of_lt hl),S8.tape A7 h2 T7.tape,Nat.le_trans (Nat.succ_le_succ i5) (Nat.add_le_add_left (show 71≤100 by decide) s),G,xl,A8,W8,n8.trans (n6.trans n4),
      fun i hi=>(tm6 i (n8▸hi)).trans (congrArg some (le8.tm i (n8▸hi)).symm),⟨ver,(on8.1.trans num7).trans (congrArg (fun z=>some (SObj.dict z ver)) (by rw[n8,n6]; exact It fun i hi=>by rw[le8.tm i (n6.symm▸hi),le6.tm i hi]))⟩,ot8.1.trans old7,
      fun p hp=>(toldR p hp).imp fun i w=>w.imp fun j w=>⟨n8.symm▸n6.symm▸w.1,n8.symm▸n6.symm▸w.2.1,((le8.tm i (n6.symm▸w.1)).trans (le6.tm i w.1)).trans w.2.2.1,((le8.tm j (n6.symm▸w.2.1)).trans (le6.tm j w.2.1)).trans w.2.2.2.1,le8.r i j (n6.symm▸w.1) (n6.symm▸w.2.1) w.2.2.2.2⟩,tl,on8.2,ot8.2,lnlo,ltlo'⟩
  by_cases q:w=0
  · obtain⟨σ8,H8,L8,e8,A8,W8,S8,le8,n8,_⟩:=LS (Jl (xs:=xs) (T:=told)) (by decide) A7 W6
    exact fin (FG (Bq pk rfl (Iq (congrArg _ q))) (Ek (AG (Ao a6) A7.inst rfl rfl e8) rfl)) A8 W8 S8 le8 n8
  · exact fin (DY (Bq pk rfl (JL (Dm (b:=0) q))) rfl) A7 W6 Step.refl Le.refl rfl
end Mine.P
namespace Mine.P
open scoped Classical
variable {σ σ':Hp}{h:Nat}{H:AH}{L:Lc}{td:Nat}{R:SV→SV→Prop}{S:SV→Prop}{X:Option Nat}{cs:List Int}{s s':Nat}
theorem HeapAt.over {g:Nat}{G G':AH}{M M':Lc}(A:HeapAt σ h H L)(st:Step g G M σ G' M' σ')(dis:∀l,BJ h H L l→¬ BJ g G M l):HeapAt σ' h H L∧∀l,BJ h H L l→¬ BJ g G' M' l:=
  ⟨A.frame fun l o hl=>(st.keep l hl (dis l o)).1,fun l o=>(st.keep l (A.high o) (dis l o)).2⟩
structure Places (Hs H:AH) (pl:Nat→Nat) (m:Nat):Prop where
  lt:∀i,i<m→pl i<H.n
  tm:∀i,i<m→H.tm (pl i)=Hs.tm i
  r:∀i,i<m→H.r (pl (Hs.r i))=H.r (pl i)
theorem Places.le {Hs H H':AH}{pl:Nat→Nat}{m:Nat}(P:Places Hs H pl m)(hr:∀i,i<m→Hs.r i≤i)(l:Le H H'):Places Hs H' pl m:=
  ⟨fun i hi=>Nat.lt_of_lt_of_le (P.lt i hi) l.n,fun i hi=>(l.tm _ (P.lt i hi)).trans (P.tm i hi),fun i hi=>l.r _ _ (P.lt _ (by have:=hr i hi; omega)) (P.lt i hi) (P.r i hi)⟩
theorem NP (C:Cong R S){hs lj:Nat}{Hs:AH}{Ls:Lc}{tds:Nat}{Rs:SV→SV→Prop}{Ss:SV→Prop}{label:String}(As:HeapAt σ hs Hs Ls)(Ws:WF Hs tds Rs Ss none)(A:HeapAt σ h H L)(W:WF H td R S none)(htd:td+Hs.n≤500)
    (hn:H.n+Hs.n≤40) (inS:∀i,i<Hs.n→S (Hs.tm i)) (sound:∀i j,i<Hs.n→j<Hs.n→Hs.r i=Hs.r j→R (Hs.tm i) (Hs.tm j)) (dis:∀l,BJ hs Hs Ls l→¬ BJ h H L l)
    {fs:List (String×SV)} (hj:σ[lj]? =some (.inst "Join" fs)) (hf:fs.lookup "heap" =some (.loc h)) (oj:¬ BJ h H L lj):
    ∃σ' H' L' pl,Eh [.loc lj,.loc hs,.str label] σ=some (.loc σ.length,σ')∧σ'[σ.length]? =some (.list (rng Hs.n fun i=> .int (pl i:Nat)))∧¬ BJ h H' L' σ.length∧
      HeapAt σ' h H' L'∧WF H' (td+Hs.n) R S none∧Step h H L σ H' L' σ'∧Le H H'∧Places Hs H' pl Hs.n∧H'.n≤H.n+Hs.n∧∀j,j<H'.n→j<H.n∨∃i,i<Hs.n∧H'.tm j=Hs.tm i:=by
  have nb:=Ws.nb
  have xok:∃d,∀σ,BV 8 σ (.tup [.str "told",.str label])=some d:=⟨_,fun _=>rfl⟩
  obtain⟨ρ',σ',g1,m,H',L',pl,td',g2,g3,g4,g5,g6,g7,g8,g9,g10,g11,g12,g13,g14,g15⟩:=CC (tgt:= .name "n") (chk:=none) (body:=
      (AC (Bl (B6 (Ab "found") (AB "Heap" "add" DS (Aq "Join" (Ab "self") "heap") [(AB "Bank" "op" DR (Aq "Heap" (Ab "heap") "bank") [(Ab "n")]),(CL (Bb ["found"] (.name "kid") (Bn (AB "Bank" "kids" Cv (Aq "Heap" (Ab "heap") "bank") [(Ab "n")])) [] (Ap (Ab "found") (Ab "kid"))))])))
      (xIf (AJ (AM .ne (AB "Heap" "find" Bu (Ab "heap") [(Ab "n")]) (Ab "n")))
      (Bl (AB "Heap" "merge" DE (Aq "Join" (Ab "self") "heap") [(Ap (Ab "found") (AB "Heap" "find" Bu (Ab "heap") [(Ab "n")])),(Ap (Ab "found") (Ab "n")),(Bw [(Ag (.str "told")),(Ab "label")])]))
      Ck)))
    (fun zs ρ' τ=>∃m H' L' pl td',zs=Aj ((List.range Hs.n).drop m)∧m≤Hs.n∧ρ'.lookup "self" =some (.loc lj)∧ρ'.lookup "heap" =some (.loc hs)∧ρ'.lookup "label" =some (.str label)∧ρ'.lookup "found" =some (.loc σ.length)∧
      τ[σ.length]? =some (.list (rng m fun i=> .int (pl i:Nat)))∧¬ BJ h H' L' σ.length∧HeapAt τ h H' L'∧WF H' td' R S none∧Step h H L σ H' L' τ∧Le H H'∧(Places Hs H' pl m∧H'.n≤H.n+m∧td'≤td+m)∧∀j,j<H'.n→j<H.n∨∃i,i<Hs.n∧H'.tm j=Hs.tm i)
    (fun _ _ _ _=>rfl) (by
      intro z zs ρ' τ hI
      obtain⟨m,H',L',pl,td',g2,g3,g4,g5,g6,g7,g8,g9,g10,g11,g12,g13,g14,g15⟩:=hI
      obtain⟨P,g14,g14'⟩:=g14
      have hm:m<Hs.n:=by
        rcases Nat.lt_or_ge m Hs.n with w | w
        · exact w
        · rw[List.drop_eq_nil_of_le (List.length_range.symm▸w)] at g2; exact nomatch g2
      rw[List.drop_eq_getElem_cons (List.length_range.symm▸hm),List.getElem_range,KQ] at g2
      obtain⟨rfl,rfl⟩:=List.cons.inj g2
      obtain⟨As',dis'⟩:=As.over g12 dis
      have hj':τ[lj]? =some (.inst "Join" fs):=(g12.keep lj (AN hj) oj).1.trans hj
      have two:=Ws.two m hm
      have kl:∀k,k∈(Hs.nd m).2→k<m:=Ws.kid m hm
      have comp:=CJ (tgt:= .name "kid") (chk:=none) (elt:=Ap (Ab "found") (Ab "kid")) (ρ:= [("found",.loc σ.length)]) (σ:=τ)
        (g:=fun x=>match x with | .int x=> .int (pl x.toNat:Nat) | v=>v) rfl (Aj (Hs.nd m).2) (by
          intro x hx
          obtain⟨k,hk,e⟩:=CZ.mp hx
          exact⟨_,rfl,e▸BN rfl rfl g8 (CX (EH (kl k hk)))⟩)
      have e:(Aj (Hs.nd m).2).map (fun x=>match x with | .int x=>SV.int (pl x.toNat:Nat) | v=>v)=Aj ((Hs.nd m).2.map pl):=by rw[Aj,Aj,List.map_map,List.map_map]; rfl
      rw[e] at comp
      have A1:=g10.app [.list (Aj ((Hs.nd m).2.map pl))]
      have two':((Hs.nd m).2.map pl).length≤2:=by rw[List.length_map]; exact two
      have tmE:SV.tup (.str (Hs.nd m).1::((Hs.nd m).2.map pl).map H'.tm)=Hs.tm m:=by
        rw[Ws.tmE m hm,List.map_map]
        exact congrArg (fun z=>SV.tup (_::z)) (List.map_congr_left fun k hk=>P.tm k (kl k hk))
      have Pj:∀k,k∈(Hs.nd m).2.map pl→k<H'.n:=fun k hk=>(List.mem_map.mp hk).elim fun k' w=>w.2▸P.lt k' (kl k' w.1)
      obtain⟨j,τ1,H1,L1,r1,r2,r3,r4,r5,r6,r7,r8,r9⟩:=Ro C (by omega) A1 g11 (op:=(Hs.nd m).1) (ks:=(Hs.nd m).2.map pl) (Ws.ops m hm) two' Pj (.inl (by omega)) (tmE.symm▸inS m hm)
      rw[tmE] at r8
      have st1:Step h H L σ H1 L1 τ1:=g12.trans (Step.app.trans r4)
      have lfl:=AN g8
      have lfa:σ.length<(τ ++ [SObj.list (Aj ((Hs.nd m).2.map pl))]).length:=AN (Ae g8)
      have f1:τ1[σ.length]? =some (.list (rng m fun i=> .int (pl i:Nat))):=(r4.keep _ lfa g9).1.trans (Ae g8)
      have of1:¬ BJ h H1 L1 σ.length:=(r4.keep _ lfa g9).2
      have p4:=Au (x:= "n") (v:= .int (m:Int)) g4 (by decide)
      have p5:=Au (x:= "n") (v:= .int (m:Int)) g5 (by decide)
      have p6:=Au (x:= "n") (v:= .int (m:Int)) g6 (by decide)
      have p7:=Au (x:= "n") (v:= .int (m:Int)) g7 (by decide)
      have bf:=Bd (c:= "Heap") (f:= "bank") p5 As'.inst rfl
      have b1:Bl (B6 (Ab "found") (AB "Heap" "add" DS (Aq "Join" (Ab "self") "heap") [(AB "Bank" "op" DR (Aq "Heap" (Ab "heap") "bank") [(Ab "n")]),(CL (Bb ["found"] (.name "kid") (Bn (AB "Bank" "kids" Cv (Aq "Heap" (Ab "heap") "bank") [(Ab "n")])) [] (Ap (Ab "found") (Ab "kid"))))])) (Rho.put ρ' "n" (.int (m:Int))) τ=some (.next,Rho.put ρ' "n" (.int (m:Int)),τ1.set σ.length (.list ((rng m fun i=> .int (pl i:Nat)) ++ [.int (j:Nat)]))):=
        Ek (CY (Ao p7) g8 (AG (name:= "add") (Bd p4 hj' hf) g10.inst rfl (AA (AG (name:= "op") bf As'.bank rfl (AA (Ao AP) rfl) (OB As' hm))
        (AA (Jk (Cy (Cf (AG (name:= "kids") bf As'.bank rfl (AA (Ao AP) rfl) (Iw As' hm two)) (DP (En two))) (by rw[BW p7]; exact comp) (En two')) AE) rfl)) r1) f1 (B8.symm▸AL (Nat.le_trans (Nat.le_of_lt hm) (Nat.le_trans nb (by decide))))) rfl
      generalize hτ2:τ1.set σ.length (.list ((rng m fun i=> .int (pl i:Nat)) ++ [.int (j:Nat)]))=τ2 at b1
      have K2:Kp (fun l=>l=σ.length) τ1 τ2:=hτ2▸Kp.set (D:=fun l=>l=σ.length) .refl rfl
      have A2:HeapAt τ2 h H1 L1:=r2.frame fun l o hl=>K2.keep l hl fun q=>of1 (q▸o)
      have st2:Step h H L σ H1 L1 τ2:=⟨Nat.le_trans st1.len K2.len,fun l hl o=>⟨(K2.keep l (Nat.lt_of_lt_of_le hl st1.len) (Nat.ne_of_lt hl)).trans (st1.keep l hl o).1,(st1.keep l hl o).2⟩⟩
      obtain⟨pl2,pl2m,pl2o⟩:∃pl2:Nat→Nat,pl2 m=j∧∀i,i<m→pl2 i=pl i:=⟨fun i=>if i=m then j else pl i,if_pos rfl,fun i hi=>if_neg (Nat.ne_of_lt hi)⟩
      have f2:τ2[σ.length]? =some (.list (rng (m+1) fun i=> .int (pl2 i:Nat))):=by
        rw[←hτ2,AD f1,FP (g:=fun i=>SV.int (pl2 i:Nat)) (fun i hi=>by rw[pl2o i hi]) (by rw[pl2m])]
      have hj2:τ2[lj]? =some (.inst "Join" fs):=(st2.keep lj (AN hj) oj).1.trans hj
      obtain⟨As2,dis2⟩:=As.over st2 dis
      have fi:AB "Heap" "find" Bu (Ab "heap") [(Ab "n")] (Rho.put ρ' "n" (.int (m:Int))) τ2=some (.int (Hs.r m:Int),τ2):=AG (name:= "find") (Ao p5) As2.inst rfl (AA (Ao (x:= "n") AP) rfl) (DZ As2 nb hm)
      have P1:=P.le (fun i hi=>Ws.rle i) r5
      have newn:H1.n≤H.n+(m+1):=r9.elim (fun w=>w.1▸Nat.le_trans g14 (Nat.le_succ _)) fun w=>w.1▸Nat.succ_le_succ g14
      have terms:∀j',j'<H1.n→j'<H.n∨∃i,i<Hs.n∧H1.tm j'=Hs.tm i:=by
        intro j' hj'
        by_cases q:j'<H'.n
        · exact(g15 j' q).imp_right fun w=>w.imp fun i w=>⟨w.1,(r5.tm j' q).trans w.2⟩
        · rcases r9 with w | w
          · exact absurd (w.1▸hj') q
          · exact .inr ⟨m,hm,(Nat.le_antisymm (w.2.1▸Nat.le_of_lt_succ (Nat.lt_of_lt_of_eq hj' w.1)) (w.2.1▸Nat.le_of_not_lt q):j'=j)▸r8⟩
      have PL:∀{H3:AH},Places Hs H3 pl m→j<H3.n→H3.tm j=Hs.tm m→(Hs.r m≠m→H3.r (pl (Hs.r m))=H3.r j)→Places Hs H3 pl2 (m+1):=by
        intro H3 P3 a b c
        refine⟨fun i hi=>?_,fun i hi=>?_,fun i hi=>?_⟩
        · by_cases w:i=m
          · rw[w,pl2m]; exact a
          · rw[pl2o i (CE hi w)]; exact P3.lt i (CE hi w)
        · by_cases w:i=m
          · rw[w,pl2m]; exact b
          · rw[pl2o i (CE hi w)]; exact P3.tm i (CE hi w)
        · by_cases w:i=m
          · rw[w]
            by_cases q:Hs.r m=m
            · rw[q]
            · rw[pl2m,pl2o _ (Nat.lt_of_le_of_ne (Ws.rle m) q)]; exact c q
          · rw[pl2o i (CE hi w),pl2o _ (Nat.lt_of_le_of_lt (Ws.rle i) (CE hi w))]; exact P3.r i (CE hi w)
      by_cases q:Hs.r m=m
      · exact⟨_,_,τ2,rfl,Bf b1 (DY (Bq fi (Ao AP) (Ir (congrArg _ q))) rfl),m+1,H1,L1,pl2,td',rfl,hm,p4,p5,p6,p7,f2,of1,A2,r3,st2,g13.trans r5,⟨PL P1 r6 r8 fun w=>absurd q w,newn,Nat.le_trans g14' (Nat.le_succ _)⟩,terms⟩
      · have rm:Hs.r m<m:=Nat.lt_of_le_of_ne (Ws.rle m) q
        have ja:pl (Hs.r m)<H1.n:=P1.lt _ rm
        have Rab:R (H1.tm (pl (Hs.r m))) (H1.tm j):=by
          rw[P1.tm _ rm,r8]; exact sound _ _ (Nat.lt_trans rm hm) hm (Ws.rr m)
        obtain⟨v,τ3,H3,L3,k1,k2,k3,k4,k5,k6,k7⟩:=NN C (by omega) A2 r3 (a:=pl (Hs.r m)) (b:=j) (x:= .tup [.str "told",.str label]) ja r6 Rab xok
        have i1:(rng (m+1) fun i=>SV.int (pl2 i:Nat))[Hs.r m]? =some (.int (pl (Hs.r m):Nat)):=(EH (Nat.lt_succ_of_lt rm)).trans (by rw[pl2o _ rm])
        have i2:(rng (m+1) fun i=>SV.int (pl2 i:Nat))[m]? =some (.int (j:Nat)):=(EH (Nat.lt_succ_self m)).trans (by rw[pl2m])
        have kk:=k4.keep σ.length (AN f2) of1
        exact⟨_,_,τ3,rfl,Bf b1 (FG (Bq fi (Ao AP) (Qd (Dm q))) (Ek (AG (Bd p4 hj2 hf) A2.inst rfl (AA (BN (Ao p7) fi f2 (CX i1)) (AA (BN (Ao p7) (Ao AP) f2 (CX i2)) (AA (EV (AA rfl (AA (Ao p6) rfl))) rfl))) k1) rfl)),
          m+1,H3,L3,pl2,td'+1,rfl,hm,p4,p5,p6,p7,kk.1.trans f2,kk.2,k2,k3,st2.trans k4,(g13.trans r5).trans k5,⟨PL (P1.le (fun i hi=>Ws.rle i) k5) (k6▸r6) ((k5.tm _ r6).trans r8) (fun _=>k7),k6▸newn,Nat.succ_le_succ g14'⟩,
          fun j' hj'=>(terms j' (k6▸hj')).imp_right fun w=>w.imp fun i w=>⟨w.1,(k5.tm j' (k6▸hj')).trans w.2⟩⟩) (Aj (List.range Hs.n)) (Rho.put [("self",.loc lj),("heap",.loc hs),("label",.str label)] "found" (.loc σ.length)) (σ ++ [.list []])
    ⟨0,H,L,fun _=>0,td,rfl,Nat.zero_le _,rfl,rfl,rfl,rfl,AE,fun o=>Nat.lt_irrefl _ (A.high o),A.app _,W,Step.app,Le.refl,⟨⟨nofun,nofun,nofun⟩,Nat.le_refl _,Nat.le_refl _⟩,fun j hj=> .inl hj⟩
  have em:m=Hs.n:=by
    have:(List.range Hs.n).drop m= []:=JN g2.symm
    exact Nat.le_antisymm g3 (List.length_range (n:=Hs.n)▸List.drop_eq_nil_iff.mp this)
  subst em
  have As1:=As.app [.list []]
  exact⟨σ',H',L',pl,BF rfl (CT rfl (Bf (FI (HI (AG rfl As1.inst rfl rfl (KS As1)) (AL (Nat.le_trans nb (by decide)))) g1) (BC (Ao g7)))),g8,g9,g10,g11.more g14.2.2,g12,g13,g14.1,g14.2.1,g15⟩
end Mine.P
namespace Mine.P
open scoped Classical
variable {σ σ':Hp}{h:Nat}{H:AH}{L:Lc}{td:Nat}{R:SV→SV→Prop}{S:SV→Prop}{X:Option Nat}{cs:List Int}{s s':Nat}
structure JoinR (σ σ':Hp) (H0 H1:AH) (R:SV→SV→Prop) (S:SV→Prop) (lj lp f0 f1:Nat) (pl0 pl1:Nat→Nat) (H:AH) (L:Lc):Prop where
  len:σ.length≤σ'.length
  keep:∀l,l<σ.length→σ'[l]? =σ[l]?
  inst:σ'[lj]? =some (.inst "Join" [("heap",.loc (lj+1)),("places",.loc lp)])
  places:σ'[lp]? =some (.list [.loc f0,.loc f1])
  found0:σ'[f0]? =some (.list (rng H0.n fun i=> .int (pl0 i:Nat)))
  found1:σ'[f1]? =some (.list (rng H1.n fun i=> .int (pl1 i:Nat)))
  heap:HeapAt σ' (lj+1) H L
  wf:WF H 500 R S none
  settled:H.wt= []
  p0:Places H0 H pl0 H0.n
  p1:Places H1 H pl1 H1.n
  terms:∀j,j<H.n→(∃i,i<H0.n∧H.tm j=H0.tm i)∨∃i,i<H1.n∧H.tm j=H1.tm i
theorem Vc (C:Cong R S){h0 h1:Nat}{H0 H1:AH}{L0 L1:Lc}{t0 t1:Nat}{R0 R1:SV→SV→Prop}{S0 S1:SV→Prop}(A0:HeapAt σ h0 H0 L0)(W0:WF H0 t0 R0 S0 none)(A1:HeapAt σ h1 H1 L1)(W1:WF H1 t1 R1 S1 none)
    (hn:H0.n+H1.n≤40) (in0:∀i,i<H0.n→S (H0.tm i)) (in1:∀i,i<H1.n→S (H1.tm i))
    (sd0:∀i j,i<H0.n→j<H0.n→H0.r i=H0.r j→R (H0.tm i) (H0.tm j)) (sd1:∀i j,i<H1.n→j<H1.n→H1.r i=H1.r j→R (H1.tm i) (H1.tm j)):
    ∃σ' lp f0 f1 pl0 pl1 H L,IC [.loc σ.length,.loc h0,.loc h1] (σ ++ [.inst "Join" []])=some (.none,σ')∧JoinR σ σ' H0 H1 R S σ.length lp f0 f1 pl0 pl1 H L:=by
  have l0:(σ ++ [SObj.inst "Join" []]).length=σ.length+1:=List.length_append
  have A2':=LU (σ:=σ ++ [.inst "Join" []]) (t:= [])
  have e2:Iy "Heap" EM [] [("self",.loc σ.length),("one",.loc h0),("other",.loc h1)] (σ ++ [.inst "Join" []])=_:=Qe rfl Pr
  have jn:(σ ++ [SObj.inst "Join" []]++C2 (σ ++ [SObj.inst "Join" []]).length)[σ.length]? =some (.inst "Join" []):=Ae AE
  have b1:=NH (f:= "heap") (o:=Ab "self") e2 rfl jn (by decide)
  have K2:Kp (fun l=>l=σ.length) σ ((σ ++ [SObj.inst "Join" []]++C2 (σ ++ [SObj.inst "Join" []]).length).set σ.length (.inst "Join" (Rho.put [] "heap" (.loc (σ ++ [SObj.inst "Join" []]).length)))):=(Kp.set (D:=fun l=>l=σ.length) (Kp.app (Kp.app .refl)) rfl)
  have A2:=A2'.frame (σ':=(σ ++ [SObj.inst "Join" []]++C2 (σ ++ [SObj.inst "Join" []]).length).set σ.length (.inst "Join" (Rho.put [] "heap" (.loc (σ ++ [SObj.inst "Join" []]).length)))) fun l o hl=>(Fk fun q=>by
    have:=(IO.mp o).1
    rw[←q,l0] at this
    exact Nat.not_succ_le_self _ this).trans (congrArg (fun s:Hp=>s[l]?) (List.append_nil _).symm)
  have j2:=AD (o:= .inst "Join" (Rho.put [] "heap" (.loc (σ ++ [SObj.inst "Join" []]).length))) jn
  rw[l0] at A2 j2 b1 K2
  generalize (σ ++ [SObj.inst "Join" []]++C2 (σ.length+1)).set σ.length (.inst "Join" (Rho.put [] "heap" (.loc (σ.length+1))))=σ2 at *
  replace j2:σ2[σ.length]? =some (.inst "Join" [("heap",.loc (σ.length+1))]):=j2
  have lt:∀{l},l<σ.length→¬ l=σ.length:=fun h=>Nat.ne_of_lt h
  have old2:∀l,l<σ.length→σ2[l]? =σ[l]?:=fun l hl=>K2.keep l hl (lt hl)
  have A02:HeapAt σ2 h0 H0 L0:=A0.frame fun l o hl=>old2 l hl
  have A12:HeapAt σ2 h1 H1 L1:=A1.frame fun l o hl=>old2 l hl
  have nE:∀{l},l≤σ.length→¬ BJ (σ.length+1) DI EJ l:=fun h o=>Nat.not_succ_le_self _ (Nat.le_trans (IO.mp o).1 h)
  have d0:∀l,BJ h0 H0 L0 l→¬ BJ (σ.length+1) DI EJ l:=fun l o=>nE (Nat.le_of_lt (A0.high o))
  have d1:∀l,BJ h1 H1 L1 l→¬ BJ (σ.length+1) DI EJ l:=fun l o=>nE (Nat.le_of_lt (A1.high o))
  have b0:0+H0.n≤40:=Nat.le_trans (Nat.le_of_eq (Nat.zero_add _)) W0.nb
  have i0:=AN A02.inst
  obtain⟨σ3,H3,L3,pl0,e3,f3,o3,A3,W3,S3,le3,P3,n3,t3⟩:=NP C (label:= "one") A02 W0 A2 (Rq (R:=R) (S:=S)) (Nat.le_trans b0 (by decide)) b0 in0 sd0 d0 j2 rfl (nE (Nat.le_refl _))
  have n3:H3.n≤H0.n:=Nat.le_trans n3 (Nat.le_of_eq (Nat.zero_add _))
  obtain⟨A13,d13⟩:=A12.over S3 d1
  have jj3:=S3.keep σ.length (AN j2) (nE (Nat.le_refl _))
  obtain⟨σ4,H4,L4,pl1,e4,f4,o4,A4,W4,S4,le4,P4,n4,t4⟩:=NP C (label:= "other") A13 W1 A3 W3 (Nat.le_trans (Nat.le_of_eq (congrArg (· + _) (Nat.zero_add _))) (Nat.le_trans hn (by decide))) (Nat.le_trans (Nat.add_le_add_right n3 _) hn) in1 sd1 d13 (jj3.1.trans j2) rfl jj3.2
  have jj4:=S4.keep σ.length (AN (jj3.1.trans j2)) jj3.2
  have j4:=jj4.1.trans (jj3.1.trans j2)
  have ff:=S4.keep _ (AN f3) o3
  have j4':=Ae (t:= [SObj.list [.loc σ2.length,.loc σ3.length]]) j4
  have b2:BE "Join" (Ab "self") "places" (Cc [(AB "Join" "taken" Eh (Ab "self") [(Ab "one"),(Ag (.str "one"))]),(AB "Join" "taken" Eh (Ab "self") [(Ab "other"),(Ag (.str "other"))])]) [("self",.loc σ.length),("one",.loc h0),("other",.loc h1)] σ2=some (.next,_,_):=
    NH (Ji (AA (AG rfl j2 rfl rfl e3) (AA (AG rfl (jj3.1.trans j2) rfl rfl e4) rfl))) rfl j4' (Nat.le_of_ble_eq_true rfl)
  have K5:Kp (fun l=>l=σ.length) σ4 ((σ4 ++ [SObj.list [.loc σ2.length,.loc σ3.length]]).set σ.length (.inst "Join" (Rho.put [("heap",.loc (σ.length+1))] "places" (.loc σ4.length)))):=Kp.set (D:=fun l=>l=σ.length) (Kp.app .refl) rfl
  have j5:=AD (o:= .inst "Join" (Rho.put [("heap",.loc (σ.length+1))] "places" (.loc σ4.length))) j4'
  have p5:=sn (x:= .inst "Join" (Rho.put [("heap",.loc (σ.length+1))] "places" (.loc σ4.length))) (AE (σ:=σ4) (o:=SObj.list [.loc σ2.length,.loc σ3.length])) (Nat.ne_of_lt (AN j4))
  generalize (σ4 ++ [SObj.list [.loc σ2.length,.loc σ3.length]]).set σ.length (.inst "Join" (Rho.put [("heap",.loc (σ.length+1))] "places" (.loc σ4.length)))=σ5 at *
  have A5:HeapAt σ5 (σ.length+1) H4 L4:=A4.frame fun l o hl=>K5.keep l hl fun q=>jj4.2 (q▸o)
  have n40:0+H0.n+H1.n≤500:=Nat.le_trans (Nat.le_of_eq (congrArg (· + _) (Nat.zero_add _))) (Nat.le_trans hn (by decide))
  obtain⟨σ6,H6,L6,e6,A6,W6,S6,le6,n6,w6⟩:=LS C (Nat.le_trans n40 (by decide)) A5 W4
  have k6:∀{l o},σ5[l]? =some o→¬ BJ (σ.length+1) H4 L4 l→σ6[l]? =some o:=fun e o=>(S6.keep _ (AN e) o).1.trans e
  have k5:∀{l o},σ4[l]? =some o→l≠σ.length→σ5[l]? =some o:=fun e q=>K5.get e q
  have z:σ.length<σ2.length:=AN j2
  have lo:∀{G M l} {τ:Hp},HeapAt τ (σ.length+1) G M→l<σ.length→¬ BJ (σ.length+1) G M l:=fun A h o=>Nat.lt_irrefl _ (Nat.lt_of_lt_of_le h (Nat.le_of_succ_le (A.low o)))
  refine⟨σ6,σ4.length,σ2.length,σ3.length,pl0,pl1,H6,L6,GX rfl (Bf b1 (Bf b2 (Ek (AG (Bd rfl j5 rfl) A5.inst rfl rfl e6) rfl))),?_⟩
  exact {
    len:=Nat.le_trans K2.len (Nat.le_trans S3.len (Nat.le_trans S4.len (Nat.le_trans K5.len S6.len)))
    keep:=fun l hl=>
      have h2:=Nat.lt_trans hl z
      have h3:=Nat.lt_of_lt_of_le h2 S3.len
      have h4:=Nat.lt_of_lt_of_le h3 S4.len
      (S6.keep l (Nat.lt_of_lt_of_le h4 K5.len) (lo A5 hl)).1.trans ((K5.keep l h4 (lt hl)).trans ((S4.keep l h3 (lo A3 hl)).1.trans ((S3.keep l h2 (lo A2 hl)).1.trans (old2 l hl))))
    inst:=k6 j5 jj4.2
    places:=k6 p5 fun o=>Nat.lt_irrefl _ (A4.high o)
    found0:=k6 (k5 (ff.1.trans f3) (Nat.ne_of_gt z)) ff.2
    found1:=k6 (k5 f4 (Nat.ne_of_gt (Nat.lt_of_lt_of_le z S3.len))) o4
    heap:=A6
    wf:=W6.more n40
    settled:=w6
    p0:=(P3.le (fun i _=>W0.rle i) le4).le (fun i _=>W0.rle i) le6
    p1:=P4.le (fun i _=>W1.rle i) le6
    terms:=fun j hj=>(t4 j (n6▸hj)).elim (fun w=>(t3 j w).elim (fun w'=>absurd w' (Nat.not_lt_zero _)) fun w'=> .inl (w'.imp fun i q=>⟨q.1,(le6.tm j (n6▸hj)).trans ((le4.tm j w).trans q.2)⟩))
      fun w=> .inr (w.imp fun i q=>⟨q.1,(le6.tm j (n6▸hj)).trans q.2⟩) }
theorem class_of {lj lp f0 f1:Nat}{pl:Nat→Nat}{n:Nat}(hi:σ[lj]? =some (.inst "Join" [("heap",.loc (lj+1)),("places",.loc lp)]))(hp:σ[lp]? =some (.list [.loc f0,.loc f1])){side:Nat}(hside:side<2)
    (hf:σ[if side=0 then f0 else f1]? =some (.list (rng n fun i=> .int (pl i:Nat)))) (A:HeapAt σ (lj+1) H L) (W:WF H td R S X) {i:Nat} (hin:i<n) (hpl:pl i<H.n):
    Dj [.loc lj,.int (side:Int),.int (i:Int)] σ=some (.int (H.r (pl i):Int),σ):=
  have w:([.loc f0,.loc f1]:List SV)[side]? =some (.loc (if side=0 then f0 else f1)):=match side,hside with
    | 0,_=>rfl
    | 1,_=>rfl
  BF rfl (BC (AG (Bd rfl hi rfl) A.inst rfl (AA (BN (BN (Bd rfl hi rfl) rfl hp (CX w)) rfl hf (CX (EH hin))) rfl) (DZ A W.nb hpl)))
end Mine.P
namespace Mine.P
open scoped Classical
variable {σ σ':Hp}{h:Nat}{H:AH}{L:Lc}{td:Nat}{R:SV→SV→Prop}{S:SV→Prop}{X:Option Nat}{cs:List Int}{s s':Nat}
noncomputable def Ba (xs:List SV)(lab:SV→Nat):List (SV×SV):=xs.map fun x=>(x,SV.int (lab x:Int))
theorem Ia {xs:List SV}{lab:SV→Nat}:(Ba xs lab).map (·.1)=xs:=by rw[Ba,List.map_map]; exact List.map_id _
theorem Jm {lab:SV→Nat}{x:SV}:∀{xs:List SV},x∈xs→(Ba xs lab).lookup x=some (.int (lab x:Int))
  | [],h=>by simp at h
  | y::ys,h=>by
    show((y,SV.int (lab y:Int))::Ba ys lab).lookup x=_
    rw[Cg]
    by_cases q:x=y
    · subst q; rw[if_pos rfl]
    · rw[if_neg q]
      rcases List.mem_cons.mp h with w | w
      · exact absurd w q
      · exact Jm w
structure KT (xs:List SV):Prop where
  isT:∀x,x∈xs→IsT 2 x
  nodup:xs.Nodup
  kids:∀x,x∈xs→∀k,k∈Fz x→k∈xs
  len:xs.length≤28
theorem KT.keys {xs:List SV}(K:KT xs){lab:SV→Nat}:(Ba xs lab).all (fun x=>x.1.isTupKey)=true:=by
  rw[List.all_eq_true]
  intro p hp
  obtain⟨x,hx,rfl⟩:=List.mem_map.mp hp
  exact(K.isT x hx).tupKey (by omega)
theorem KT.fits {xs:List SV}(K:KT xs){lab:SV→Nat}{x:SV}(hx:IsT 2 x):Bz x (Ba xs lab)=true:=D8 (hx.tupKey (by omega)) K.keys
noncomputable def V9:SV→String
  | .tup (.str s::_)=>s
  | _=> ""
noncomputable def Qg (lab:SV→Nat)(a b:SV):Prop:=V9 a=V9 b∧(Fz a).map lab=(Fz b).map lab
noncomputable def D3 (T:List (SV×SV))(lab:SV→Nat)(a b:SV):Prop:=lab a≠lab b∧(Qg lab a b∨(a,b)∈T)
noncomputable def Eo (lab:SV→Nat)(a b:SV):SV→Nat:=fun x=>if lab x=max (lab a) (lab b) then min (lab a) (lab b) else lab x
noncomputable def SO:Ev:=(Qi (AM .eq (Ap (Ab "tree") (Ag (.int 0))) (Ap (Ab "late") (Ag (.int 0)))) (AM .eq (Bb ["home"] (.name "kid") (Bn (ET (Ab "tree") 1)) [] (Ap (Ab "home") (Ab "kid"))) (Bb ["home"] (.name "kid") (Bn (ET (Ab "late") 1)) [] (Ap (Ab "home") (Ab "kid")))))
noncomputable def NQ:Tv:=(Qj (AJ (AM .ne (Ap (Ab "home") (Ab "tree")) (Ap (Ab "home") (Ab "late")))) (tOr (AJ (Ab "is_alike")) (AJ (AM .isin (Bw [(Ab "tree"),(Ab "late")]) (Ab "told")))))
noncomputable def Pu:Ex:=(AC (Bi (.pair "low" "high") (DA (Cc [(Ap (Ab "home") (Ab "tree")),(Ap (Ab "home") (Ab "late"))])))
  (AC (Bi (.name "home") (EK (Bb ["high", "low"] (.pair "each" "spot") (FW (Ab "home")) [] (Bw [(Ab "each"),(eIf (AJ (AM .eq (Ab "spot") (Ab "high"))) (Ab "low") (Ab "spot"))]))))
  (Bi (.name "is_new") (Ag (.bool true)))))
noncomputable def EB:Ex:=(AC (Bi (.name "is_alike") SO) (xIf NQ Pu Ck))
theorem P5:Ke=(AC (Bi (.pair "home" "is_new") (Bw [(EK (Bb [] (.pair "at" "tree") (MU (Ab "some")) [] (Bw [(Ab "tree"),(Ab "at")]))),(Ag (.bool true))]))
  (AC (HM (AJ (Ab "is_new"))
  (AC (Bi (.name "is_new") (Ag (.bool false)))
  (CN (.name "tree") (Bn (Ab "some"))
  (CN (.name "late") (Bn (Ab "some")) EB))))
  (BH (Ab "home")))):=rfl
theorem GJ {xs:List SV}(K:KT xs){lab:SV→Nat}{lh ver:Nat}(hh:σ[lh]? =some (.dict (Ba xs lab) ver)){ρ:Rho}{n:String}{x:SV}(q1:ρ.lookup "home" =some (.loc lh))(q2:ρ.lookup n=some x)(hx:x∈xs):Ap (Ab "home") (Ab n) ρ σ=some (.int (lab x:Int),σ):=
  Fj (Ao q1) (Ao q2) hh (K.fits (K.isT x hx)) (Jm hx)
theorem LV {xs:List SV}(K:KT xs){lab:SV→Nat}{lh ver:Nat}(hh:σ[lh]? =some (.dict (Ba xs lab) ver)){op:String}{ks:List SV}(h2:ks.length≤2)(hk:∀k,k∈ks→k∈xs){ρ:Rho}(q1:ρ.lookup "home" =some (.loc lh)){n:String}(q2:ρ.lookup n=some (.tup (.str op::ks))):
    Bb ["home"] (.name "kid") (Bn (ET (Ab n) 1)) [] (Ap (Ab "home") (Ab "kid")) ρ σ=some (.loc σ.length,σ ++ [.list (Aj (ks.map lab))]):=by
  have:=CJ (tgt:= .name "kid") (chk:=none) (elt:=Ap (Ab "home") (Ab "kid")) (ρ:= [("home",.loc lh)]) (σ:=σ) (g:=fun x=> .int (lab x:Int)) rfl ks fun x hx=>⟨_,rfl,GJ K hh rfl rfl (hk x hx)⟩
  rw[←R9] at this
  exact Cy (Cf (HZ (Ao q2) ⟨Nat.succ_le_succ (Nat.zero_le _),AL (Nat.le_trans (Nat.succ_le_succ h2) (by decide))⟩) (DP (AL (Nat.le_trans h2 (by decide))))) (by rw[BW q1]; exact this) (En ((List.length_map (as:=ks) lab).symm▸h2))
theorem Sd {xs:List SV}(K:KT xs){lab:SV→Nat}{lh ver:Nat}(hh:σ[lh]? =some (.dict (Ba xs lab) ver)){a b:SV}(ha:a∈xs)(hb:b∈xs){ρ:Rho}(q1:ρ.lookup "home" =some (.loc lh))(q2:ρ.lookup "tree" =some a)(q3:ρ.lookup "late" =some b):
    ∃v t,SO ρ σ=some (.bool v,σ++t)∧(v=true↔Qg lab a b):=by
  obtain⟨op,ks,ho,rfl,h2,_⟩:=(K.isT a ha).shape
  obtain⟨op',ks',ho',rfl,h2',_⟩:=(K.isT b hb).shape
  have T:∀{r},decide (op=op')=r→AM .eq (Ap (Ab "tree") (Ag (.int 0))) (Ap (Ab "late") (Ag (.int 0))) ρ σ=some (.bool r,σ):=fun e=>Lg (Dl (Ao q2) rfl (by decide) rfl) (Dl (Ao q3) rfl (by decide) rfl) (e▸VQ)
  by_cases e:op=op'
  · subst e
    have g1:=LV K hh h2 (K.kids _ ha) q1 q2
    have hh1:=Ae (t:= [SObj.list (Aj (ks.map lab))]) hh
    have g2:=LV K hh1 h2' (K.kids _ hb) q1 q3
    have e2:=JK (σ:=σ ++ [SObj.list (Aj (ks.map lab))] ++ [SObj.list (Aj (ks'.map lab))]) (k:=0) (m:=0) (Ae AE) AE Hz Hz (by decide) (by decide)
    exact⟨decide (Aj (ks.map lab)=Aj (ks'.map lab)),_,(We (T (decide_eq_true rfl)) (Lg (o:= .eq) g1 g2 e2)).trans (congrArg (fun s=>some (SV.bool _,s)) (List.append_assoc ..)),decide_eq_true_iff.trans ⟨fun q=>⟨rfl,JN q⟩,fun q=>congrArg Aj q.2⟩⟩
  · exact⟨false, [],(Az (T (decide_eq_false e)) rfl).trans (congrArg (fun s=>some (SV.bool _,s)) (List.append_nil _).symm),nofun,fun w=>absurd w.1 e⟩
theorem TZ {T:List (SV×SV)}{a b:SV}:AX (a,b)∈T.map AX↔(a,b)∈T:=by
  constructor
  · intro h
    obtain⟨p,hp,e⟩:=List.mem_map.mp h
    unfold AX at e
    simp only[SV.tup.injEq,List.cons.injEq,and_true] at e
    have:p=(a,b):=Prod.ext e.1 e.2
    rw[←this]; exact hp
  · intro h; exact List.mem_map_of_mem h
theorem NR {a b:SV}(ha:IsT 2 a)(hb:IsT 2 b):(AX (a,b)).isKeyD 4=true:=by
  unfold AX
  simp only[SV.isKeyD,SV.areKeysD,Bool.and_true]
  rw[show a.isKeyD 3=true from ha.key,show b.isKeyD 3=true from hb.key]; rfl
open Classical in
theorem OH {xs:List SV}(K:KT xs){T:List (SV×SV)}(hT:∀p,p∈T→p.1∈xs∧p.2∈xs){lab:SV→Nat}{lh ver lt:Nat}(hh:σ[lh]? =some (.dict (Ba xs lab) ver))(ht:σ[lt]? =some (.list (T.map AX))){a b:SV}(ha:a∈xs)(hb:b∈xs){v:Bool}(hv:v=true↔Qg lab a b)
    {ρ:Rho} (q1:ρ.lookup "home" =some (.loc lh)) (q2:ρ.lookup "tree" =some a) (q3:ρ.lookup "late" =some b) (q4:ρ.lookup "told" =some (.loc lt)) (q5:ρ.lookup "is_alike" =some (.bool v)):
    NQ ρ σ=some (decide (D3 T lab a b),σ):=by
  have iv:=JR (σ:=σ) (k:=4) (m:=4) (x:=AX (a,b)) (NR (K.isT a ha) (K.isT b hb)) (by unfold Cs; omega) (by unfold Cs; omega) (xs:=T.map AX) (by
    intro y hy
    obtain⟨p,hp,rfl⟩:=List.mem_map.mp hy
    obtain⟨x1,x2⟩:=hT p hp
    exact NR (K.isT _ x1) (K.isT _ x2))
  have iv':C9 σ (.tup [a,b]) (T.map AX)=some (decide ((a,b)∈T)):=by
    rw[show SV.tup [a,b]=AX (a,b) from rfl,iv]
    simp only[TZ]
  have iv2:Cp .isin (.tup [a,b]) (.loc lt) σ=some (decide ((a,b)∈T)):=by
    show(match σ[lt]? with | some (.list xs)=>C9 σ (SV.tup [a,b]) xs | some (.dict kvs _)=>if Bz (SV.tup [a,b]) kvs then some ((kvs.lookup (SV.tup [a,b])).isSome) else none | _=>none)=_
    rw[ht]; exact iv'
  have h1:=GJ K hh q1 q2 ha; have h2:=GJ K hh q1 q3 hb
  by_cases e:lab a=lab b
  · rw[decide_eq_false fun w:D3 T lab a b=>w.1 e]
    exact XE (Bq h1 h2 (Ir (congrArg _ e)))
  · refine XD (Bq h1 h2 (Qd (Dm e))) ?_
    cases v with
    | true=>
      rw[decide_eq_true (show D3 T lab a b from⟨e,.inl (hv.mp rfl)⟩)]
      exact X8 (Gm (Ao q5))
    | false=>
      have:D3 T lab a b↔(a,b)∈T:=⟨fun w=>w.2.resolve_left fun w=>(nomatch hv.mpr w),fun w=>⟨e,.inr w⟩⟩
      rw[HY this]
      exact Li (Gm (Ao q5)) (Bq (EV (AA (Ao q2) (AA (Ao q3) rfl))) (Ao q4) iv2)
theorem P6 {xs:List SV}(K:KT xs){lab:SV→Nat}{lh ver:Nat}(hh:σ[lh]? =some (.dict (Ba xs lab) ver)){a b:SV}(ha:a∈xs)(hb:b∈xs)
    {ρ:Rho} (q1:ρ.lookup "home" =some (.loc lh)) (q2:ρ.lookup "tree" =some a) (q3:ρ.lookup "late" =some b):
    ∃ρ' t lh',Pu ρ σ=some (.next,ρ',σ++t)∧(∀y,y≠ "low" →y≠ "high" →y≠ "home" →y≠ "is_new" →ρ'.lookup y=ρ.lookup y)∧ρ'.lookup "home" =some (.loc lh')∧ρ'.lookup "is_new" =some (.bool true)∧(σ++t)[lh']? =some (.dict (Ba xs (Eo lab a b)) 0):=by
  have ms:=H9 (a:=lab a) (b:=lab b)
  have hl:xs.length≤1000:=Nat.le_trans K.len (by decide)
  have hh1:=Ae (t:= [SObj.list [.int ((min (lab a) (lab b):Nat):Int),.int ((max (lab a) (lab b):Nat):Int)]]) (Ae (t:= [SObj.list [.int (lab a:Int),.int (lab b:Int)]]) hh)
  have b1:Bi (.pair "low" "high") (DA (Cc [(Ap (Ab "home") (Ab "tree")),(Ap (Ab "home") (Ab "late"))])) ρ σ=some (.next,Rho.put (Rho.put ρ "low" (.int ((min (lab a) (lab b):Nat):Int))) "high" (.int ((max (lab a) (lab b):Nat):Int)),σ ++ [SObj.list [.int (lab a:Int),.int (lab b:Int)]] ++ [SObj.list [.int ((min (lab a) (lab b):Nat):Int),.int ((max (lab a) (lab b):Nat):Int)]]):=
    ms▸Go (FO (Ji (AA (GJ K hh q1 q2 ha) (AA (GJ K hh q1 q3 hb) rfl))) (Dw AE) Rk) (Hy (AE.trans (congrArg (fun x=>some (SObj.list x)) ms)))
  have as4:∀{a b c d:SObj},σ ++ [a] ++ [b] ++ [c] ++ [d]=σ ++ [a,b,c,d]:=by intros; simp only[List.append_assoc,List.cons_append,List.nil_append]
  generalize hσ1:σ ++ [SObj.list [.int (lab a:Int),.int (lab b:Int)]] ++ [SObj.list [.int ((min (lab a) (lab b):Nat):Int),.int ((max (lab a) (lab b):Nat):Int)]]=σ1 at b1 hh1
  have comp:=CJ (tgt:= .pair "each" "spot") (chk:=some (lh,.dict (Ba xs lab) ver)) (elt:=Bw [(Ab "each"),(eIf (AJ (AM .eq (Ab "spot") (Ab "high"))) (Ab "low") (Ab "spot"))])
    (ρ:= [("high",.int ((max (lab a) (lab b):Nat):Int)),("low",.int ((min (lab a) (lab b):Nat):Int))]) (σ:=σ1)
    (g:=fun v=>match v with | .tup [k,.int i]=> .tup [k,.int (if i=((max (lab a) (lab b):Nat):Int) then((min (lab a) (lab b):Nat):Int) else i)] | v=>v) (decide_eq_true hh1) ((Ba xs lab).map fun p=>SV.tup [p.1,p.2]) (by
      intro x hx
      obtain⟨p,hp,rfl⟩:=List.mem_map.mp hx
      obtain⟨x,hx,rfl⟩:=List.mem_map.mp hp
      refine⟨_,rfl,EV (AA rfl (AA ?_ rfl))⟩
      by_cases q:(lab x:Int)=((max (lab a) (lab b):Nat):Int)
      · rw[if_pos q]; exact H5 (Bq rfl rfl (Iq q)) rfl
      · rw[if_neg q]; exact NG (Bq rfl rfl (JL q)) rfl)
  have e:((Ba xs lab).map fun p=>SV.tup [p.1,p.2]).map (fun v=>match v with | .tup [k,.int i]=> .tup [k,.int (if i=((max (lab a) (lab b):Nat):Int) then((min (lab a) (lab b):Nat):Int) else i)] | v=>v)=
      (Ba xs (Eo lab a b)).map fun p=>SV.tup [p.1,p.2]:=by
    unfold Ba
    rw[List.map_map,List.map_map,List.map_map]
    apply List.map_congr_left
    intro x _
    simp only[Function.comp_def,Eo,SV.tup.injEq,List.cons.injEq,SV.int.injEq,and_true,true_and]
    by_cases q:lab x=max (lab a) (lab b)
    · rw[if_pos q,if_pos (by omega)]
    · rw[if_neg q,if_neg (by omega)]
  rw[e] at comp
  have kl:(Ba xs (Eo lab a b)).length≤1000:=(List.length_map (as:=xs) _).symm▸hl
  have fill:=GI (ps:=Ba xs (Eo lab a b)) (d:= []) (fun p hp=>List.all_eq_true.mp (K.keys (lab:=Eo lab a b)) p hp) rfl (by rw[List.nil_append,Ia]; exact K.nodup) (AL (Nat.le_trans (Nat.le_of_eq (Nat.zero_add _)) kl))
  rw[List.nil_append] at fill
  have q1':(Rho.put (Rho.put ρ "low" (.int ((min (lab a) (lab b):Nat):Int))) "high" (.int ((max (lab a) (lab b):Nat):Int))).lookup "home" =some (.loc lh):=Au (Au q1 (by decide)) (by decide)
  have st:EK (Bb ["high", "low"] (.pair "each" "spot") (FW (Ab "home")) [] (Bw [(Ab "each"),(eIf (AJ (AM .eq (Ab "spot") (Ab "high"))) (Ab "low") (Ab "spot"))])) _ σ1=some (_,_):=MD (Cy (SD (Ao q1') hh1) (by rw[BW AP,BW (Au AP (by decide))]; exact comp) (AL (by rw[List.length_map]; exact kl))) AE fill
  refine⟨_,_,_,(Bf b1 (Bf (Gn st) (Gn rfl))).trans (congrArg (fun s=>some (Flw.next,_,s)) (hσ1▸as4)),fun y h1 h2 h3 h4=>?_,Au AP (by decide),AP,?_⟩
  · rw[AK,if_neg h4,AK,if_neg h3,AK,if_neg h2,AK,if_neg h1]
  · rw[←as4,hσ1]; exact AE
end Mine.P
namespace Mine.P
open scoped Classical
variable {σ σ':Hp}{h:Nat}{H:AH}{L:Lc}{td:Nat}{R:SV→SV→Prop}{S:SV→Prop}{X:Option Nat}{cs:List Int}{s s':Nat}
noncomputable def E7 (lab:SV→Nat)(xs:List SV):Nat:=(xs.map lab).sum
theorem SP {f g:SV→Nat}:∀{xs:List SV},(∀x,x∈xs→f x≤g x)→E7 f xs≤E7 g xs
  | [],_=>Nat.le_refl _
  | x::xs,h=>by
    have:=SP (f:=f) (g:=g) (xs:=xs) fun y hy=>h y (List.mem_cons_of_mem _ hy)
    have:=h x List.mem_cons_self
    unfold E7 at *; simp; omega
theorem SQ {f g:SV→Nat}:∀{xs:List SV},(∀x,x∈xs→f x≤g x)→(∃x,x∈xs∧f x<g x)→E7 f xs<E7 g xs
  | [],_,⟨x,hx,_⟩=>by simp at hx
  | x::xs,h,⟨y,hy,hlt⟩=>by
    have hle:=SP (f:=f) (g:=g) (xs:=xs) fun y hy=>h y (List.mem_cons_of_mem _ hy)
    have hx:=h x List.mem_cons_self
    rcases List.mem_cons.mp hy with w | w
    · subst w; unfold E7 at *; simp; omega
    · have:=SQ (f:=f) (g:=g) (xs:=xs) (fun y hy=>h y (List.mem_cons_of_mem _ hy)) ⟨y,w,hlt⟩
      unfold E7 at *; simp; omega
theorem NS {f:SV→Nat}{b:Nat}:∀{xs:List SV},(∀x,x∈xs→f x≤b)→E7 f xs≤xs.length*b
  | [],_=>by simp[E7]
  | x::xs,h=>by
    have:=NS (f:=f) (b:=b) (xs:=xs) fun y hy=>h y (List.mem_cons_of_mem _ hy)
    have:=h x List.mem_cons_self
    unfold E7 at *; simp[Nat.add_mul]; omega
noncomputable def HA (R:SV→SV→Prop)(xs:List SV)(lab:SV→Nat):Prop:=∀x y,x∈xs→y∈xs→lab x=lab y→R x y
theorem Vd {xs:List SV}{T:List (SV×SV)}{lab:SV→Nat}{a b:SV}(ha:a∈xs)(hb:b∈xs)(c:D3 T lab a b):E7 (Eo lab a b) xs<E7 lab xs:=by
  have hne:=c.1
  refine SQ (fun x hx=>?_) ?_
  · unfold Eo; split <;> omega
  · rcases Nat.lt_or_ge (lab a) (lab b) with q | q
    · refine⟨b,hb,?_⟩
      unfold Eo; rw[if_pos (by omega)]; omega
    · refine⟨a,ha,?_⟩
      unfold Eo; rw[if_pos (by omega)]; omega
theorem XR {xs:List SV}(K:KT xs)(C:Cong R fun v=>v∈xs){T:List (SV×SV)}(hT:∀p,p∈T→R p.1 p.2){lab:SV→Nat}(sd:HA R xs lab){a b:SV}(ha:a∈xs)(hb:b∈xs)(c:D3 T lab a b):R a b:=by
  rcases c.2 with w | w
  · obtain⟨op,ks,ho,rfl,h2,_⟩:=(K.isT a ha).shape
    obtain⟨op',ks',ho',rfl,h2',_⟩:=(K.isT b hb).shape
    unfold Qg at w
    simp only[V9,Fz] at w
    obtain⟨rfl,w⟩:=w
    have hl:ks.length=ks'.length:=by have:=congrArg List.length w; simpa using this
    refine C.cong ha hb hl fun t u v hu hv=>?_
    have e:=congrArg (fun l=>l[t]?) w
    simp only[List.getElem?_map,hu,hv,Option.map_some,Option.some.injEq] at e
    exact sd u v (K.kids _ ha u (List.mem_of_getElem? hu)) (K.kids _ hb v (List.mem_of_getElem? hv)) e
  · exact hT (a,b) w
theorem Rx {xs:List SV}(C:Cong R S){lab:SV→Nat}(sd:HA R xs lab){a b:SV}(ha:a∈xs)(hb:b∈xs)(hR:R a b):HA R xs (Eo lab a b):=by
  intro x y hx hy e
  unfold Eo at e
  have key:∀u v,u∈xs→v∈xs→lab u=max (lab a) (lab b)→lab v=min (lab a) (lab b)→R u v:=by
    intro u v hu hv q1 q2
    rcases Nat.le_total (lab a) (lab b) with q | q
    · rw[Nat.max_eq_right q] at q1; rw[Nat.min_eq_left q] at q2
      exact C.trans (sd u b hu hb q1) (C.trans (C.symm hR) (sd a v ha hv q2.symm))
    · rw[Nat.max_eq_left q] at q1; rw[Nat.min_eq_right q] at q2
      exact C.trans (sd u a hu ha q1) (C.trans hR (sd b v hb hv q2.symm))
  by_cases q1:lab x=max (lab a) (lab b)
  · rw[if_pos q1] at e
    by_cases q2:lab y=max (lab a) (lab b)
    · exact sd x y hx hy (by omega)
    · rw[if_neg q2] at e; exact key x y hx hy q1 e.symm
  · rw[if_neg q1] at e
    by_cases q2:lab y=max (lab a) (lab b)
    · rw[if_pos q2] at e; exact C.symm (key y x hy hx q2 e)
    · rw[if_neg q2] at e; exact sd x y hx hy e
structure CSt (σ0:Hp) (xs:List SV) (ls lt:Nat) (ρ:Rho) (τ:Hp) (lab:SV→Nat) (n:Bool):Prop where
  ext:∃t,τ=σ0++t
  lsome:ρ.lookup "some" =some (.loc ls)
  ltold:ρ.lookup "told" =some (.loc lt)
  new:ρ.lookup "is_new" =some (.bool n)
  home:∃lh ver,ρ.lookup "home" =some (.loc lh)∧τ[lh]? =some (.dict (Ba xs lab) ver)
structure Prog (R:SV→SV→Prop) (xs:List SV) (lab0 lab:SV→Nat) (n:Bool) (P:Prop):Prop where
  sound:HA R xs lab
  lt:n=true→E7 lab xs<E7 lab0 xs
  eq:n=false→lab=lab0∧P
open Classical in
theorem OI {xs:List SV}(K:KT xs)(C:Cong R fun v=>v∈xs){T:List (SV×SV)}(hT:∀p,p∈T→p.1∈xs∧p.2∈xs)(hTR:∀p,p∈T→R p.1 p.2){ls lt:Nat}(ht:σ[lt]? =some (.list (T.map AX))){ρ:Rho}{τ:Hp}{lab lab0:SV→Nat}{n:Bool}{P:Prop}(c:CSt σ xs ls lt ρ τ lab n)(p:Prog R xs lab0 lab n P)
    {a b:SV} (ha:a∈xs) (hb:b∈xs) (q2:ρ.lookup "tree" =some a) (q3:ρ.lookup "late" =some b):
    ∃ρ' τ' lab' n',EB ρ τ=some (.next,ρ',τ')∧CSt σ xs ls lt ρ' τ' lab' n'∧Prog R xs lab0 lab' n' (P∧¬ D3 T lab0 a b)∧ρ'.lookup "tree" =some a:=by
  obtain⟨t,rfl⟩:=c.ext
  obtain⟨lh,ver,q1,hh⟩:=c.home
  obtain⟨v,t1,e1,hv⟩:=Sd K hh ha hb q1 q2 q3
  have hh1:=Ae (t:=t1) hh
  have ht1:=Ae (t:=t1) (Ae (t:=t) ht)
  have test:=OH K hT hh1 ht1 ha hb hv (ρ:=Rho.put ρ "is_alike" (.bool v)) (Au q1 (by decide)) (Au q2 (by decide)) (Au q3 (by decide)) (Au c.ltold (by decide)) AP
  by_cases q:D3 T lab a b
  · obtain⟨ρ',t2,lh',e2,k2,h1,h2,h3⟩:=P6 K hh1 ha hb (ρ:=Rho.put ρ "is_alike" (.bool v)) (Au q1 (by decide)) (Au q2 (by decide)) (Au q3 (by decide))
    rw[decide_eq_true q] at test
    have as:∀{a b c d:Hp},a++b++c++d=a++(b++c++d):=by intros; simp only[List.append_assoc]
    have nl:=Vd ha hb q
    refine⟨ρ',σ++t++t1++t2,Eo lab a b,true,CT e1 (FG test e2),⟨⟨t++t1++t2,as⟩,(k2 _ (by decide) (by decide) (by decide) (by decide)).trans (Au c.lsome (by decide)),(k2 _ (by decide) (by decide) (by decide) (by decide)).trans (Au c.ltold (by decide)),h2,lh',0,h1,h3⟩,⟨Rx C p.sound ha hb (XR K C hTR p.sound ha hb q),fun _=>?_,nofun⟩,(k2 _ (by decide) (by decide) (by decide) (by decide)).trans (Au q2 (by decide))⟩
    cases n with
    | true=>exact Nat.lt_trans nl (p.lt rfl)
    | false=>exact(p.eq rfl).1▸nl
  · rw[decide_eq_false q] at test
    exact⟨Rho.put ρ "is_alike" (.bool v),σ++t++t1,lab,n,CT e1 (DY test rfl),⟨⟨t++t1,List.append_assoc ..⟩,Au c.lsome (by decide),Au c.ltold (by decide),Au c.new (by decide),lh,ver,Au q1 (by decide),hh1⟩,⟨p.sound,p.lt,fun w=>⟨(p.eq w).1,(p.eq w).2,(p.eq w).1▸q⟩⟩,Au q2 (by decide)⟩
theorem CSt.tgt {xs:List SV}{ls lt:Nat}{ρ:Rho}{τ:Hp}{lab:SV→Nat}{n:Bool}(c:CSt σ xs ls lt ρ τ lab n){x:String}{v:SV}(h1:x≠ "some")(h2:x≠ "told")(h3:x≠ "is_new")(h4:x≠ "home"):CSt σ xs ls lt (Rho.put ρ x v) τ lab n:=by
  obtain⟨lh,ver,q1,hh⟩:=c.home
  exact⟨c.ext,Au c.lsome h1.symm,Au c.ltold h2.symm,Au c.new h3.symm,lh,ver,Au q1 h4.symm,hh⟩
theorem Ry {xs:List SV}(K:KT xs)(C:Cong R fun v=>v∈xs){T:List (SV×SV)}(hT:∀p,p∈T→p.1∈xs∧p.2∈xs)(hTR:∀p,p∈T→R p.1 p.2){ls lt:Nat}(hs:σ[ls]? =some (.list xs))(ht:σ[lt]? =some (.list (T.map AX))){ρ:Rho}{τ:Hp}{lab lab0:SV→Nat}{n:Bool}{P:Prop}(c:CSt σ xs ls lt ρ τ lab n)(p:Prog R xs lab0 lab n P)
    {a:SV} (ha:a∈xs) (q2:ρ.lookup "tree" =some a):
    ∃ρ' τ' lab' n',CN (.name "late") (Bn (Ab "some")) EB ρ τ=some (.next,ρ',τ')∧CSt σ xs ls lt ρ' τ' lab' n'∧Prog R xs lab0 lab' n' (P∧∀b,b∈xs→¬ D3 T lab0 a b):=by
  obtain⟨ρ',τ',g1,lab',n',g2,g3,_⟩:=CC (tgt:= .name "late") (chk:=some (ls,.list xs)) (body:=EB)
    (fun zs ρ τ=>∃lab' n',CSt σ xs ls lt ρ τ lab' n'∧Prog R xs lab0 lab' n' (P∧∀b,b∈xs→b∈zs∨¬ D3 T lab0 a b)∧(ρ.lookup "tree" =some a)∧∀z,z∈zs→z∈xs) (by
      intro zs ρ τ hrin; obtain⟨lab',n',c,_⟩:=hrin
      obtain⟨t,rfl⟩:=c.ext
      exact decide_eq_true (Ae hs)) (by
      intro z zs ρ τ hrin; obtain⟨lab',n',c,p,q2,g4⟩:=hrin
      have hz:=g4 z List.mem_cons_self
      obtain⟨ρ2,τ2,lab2,n2,e2,c2,p2,q2'⟩:=OI K C hT hTR ht (c.tgt (x:= "late") (v:=z) (by decide) (by decide) (by decide) (by decide)) p ha hz (Au q2 (by decide)) AP
      refine⟨_,ρ2,τ2,rfl,e2,lab2,n2,c2,⟨p2.sound,p2.lt,fun w=>?_⟩,q2',fun z hz=>g4 z (List.mem_cons_of_mem _ hz)⟩
      obtain⟨w1,⟨w2,w3⟩,w4⟩:=p2.eq w
      refine⟨w1,w2,fun b hb=>?_⟩
      rcases w3 b hb with w | w
      · rcases List.mem_cons.mp w with w | w
        · subst w; exact .inr w4
        · exact .inl w
      · exact .inr w) xs ρ τ ⟨lab,n,c,⟨p.sound,p.lt,fun w=>⟨(p.eq w).1,(p.eq w).2,fun b hb=> .inl hb⟩⟩,q2,fun _ w=>w⟩
  refine⟨ρ',τ',lab',n',?_,g2,⟨g3.sound,g3.lt,fun w=>?_⟩⟩
  · obtain⟨t,rfl⟩:=c.ext
    exact FI (Cf (Ao c.lsome) (D7 (Ae hs))) g1
  · obtain⟨w1,w2,w3⟩:=g3.eq w
    refine⟨w1,w2,fun b hb=>?_⟩
    rcases w3 b hb with w | w
    · exact absurd w List.not_mem_nil
    · exact w
theorem Rz {xs:List SV}(K:KT xs)(C:Cong R fun v=>v∈xs){T:List (SV×SV)}(hT:∀p,p∈T→p.1∈xs∧p.2∈xs)(hTR:∀p,p∈T→R p.1 p.2){ls lt:Nat}(hs:σ[ls]? =some (.list xs))(ht:σ[lt]? =some (.list (T.map AX))){ρ:Rho}{τ:Hp}{lab0:SV→Nat}(c:CSt σ xs ls lt ρ τ lab0 false)(sd:HA R xs lab0):
    ∃ρ' τ' lab' n',CN (.name "tree") (Bn (Ab "some")) (CN (.name "late") (Bn (Ab "some")) EB) ρ τ=some (.next,ρ',τ')∧CSt σ xs ls lt ρ' τ' lab' n'∧Prog R xs lab0 lab' n' (∀a,a∈xs→∀b,b∈xs→¬ D3 T lab0 a b):=by
  obtain⟨ρ',τ',g1,lab',n',g2,g3,_⟩:=CC (tgt:= .name "tree") (chk:=some (ls,.list xs)) (body:=CN (.name "late") (Bn (Ab "some")) EB)
    (fun zs ρ τ=>∃lab' n',CSt σ xs ls lt ρ τ lab' n'∧Prog R xs lab0 lab' n' (∀a,a∈xs→a∈zs∨∀b,b∈xs→¬ D3 T lab0 a b)∧∀z,z∈zs→z∈xs) (by
      intro zs ρ τ hrin; obtain⟨lab',n',c,_⟩:=hrin
      obtain⟨t,rfl⟩:=c.ext
      exact decide_eq_true (Ae hs)) (by
      intro z zs ρ τ hrin; obtain⟨lab',n',c,p,g4⟩:=hrin
      have hz:=g4 z List.mem_cons_self
      obtain⟨ρ2,τ2,lab2,n2,e2,c2,p2⟩:=Ry K C hT hTR hs ht (c.tgt (x:= "tree") (v:=z) (by decide) (by decide) (by decide) (by decide)) p hz AP
      refine⟨_,ρ2,τ2,rfl,e2,lab2,n2,c2,⟨p2.sound,p2.lt,fun w=>?_⟩,fun z hz=>g4 z (List.mem_cons_of_mem _ hz)⟩
      obtain⟨w1,w3,w4⟩:=p2.eq w
      refine⟨w1,fun a ha=>?_⟩
      rcases w3 a ha with w | w
      · rcases List.mem_cons.mp w with w | w
        · subst w; exact .inr w4
        · exact .inl w
      · exact .inr w) xs ρ τ ⟨lab0,false,c,⟨sd,(fun w=>by cases w),fun _=>⟨rfl,fun a ha=> .inl ha⟩⟩,fun _ w=>w⟩
  refine⟨ρ',τ',lab',n',?_,g2,⟨g3.sound,g3.lt,fun w=>?_⟩⟩
  · obtain⟨t,rfl⟩:=c.ext
    exact FI (Cf (Ao c.lsome) (D7 (Ae hs))) g1
  · obtain⟨w1,w3⟩:=g3.eq w
    refine⟨w1,fun a ha=>?_⟩
    rcases w3 a ha with w | w
    · exact absurd w List.not_mem_nil
    · exact w
theorem T8 {xs:List SV}(K:KT xs)(C:Cong R fun v=>v∈xs){T:List (SV×SV)}(hT:∀p,p∈T→p.1∈xs∧p.2∈xs)(hTR:∀p,p∈T→R p.1 p.2){ls lt:Nat}(hs:σ[ls]? =some (.list xs))(ht:σ[lt]? =some (.list (T.map AX))):
    ∃t lh ver lab,FZ [.loc ls,.loc lt] σ=some (.loc lh,σ++t)∧(σ++t)[lh]? =some (.dict (Ba xs lab) ver)∧HA R xs lab∧∀a,a∈xs→∀b,b∈xs→¬ D3 T lab a b:=by
  have idx:∀i x,xs[i]? =some x→xs.idxOf x=i:=fun i x h=>by
    obtain⟨hi,rfl⟩:=List.getElem?_eq_some_iff.mp h
    exact K.nodup.idxOf_getElem i hi
  have kv0:(xs.zipIdx.map fun p=>SV.tup [.int (p.2:Int),p.1]).map (fun v=>match v with | .tup [i,x]=> .tup [x,i] | v=>v)=(Ba xs xs.idxOf).map fun p=>SV.tup [p.1,p.2]:=by
    unfold Ba
    rw[List.map_map,List.map_map]
    apply List.ext_getElem?
    intro i
    simp only[List.getElem?_map,List.getElem?_zipIdx,Nat.zero_add,Function.comp_def]
    cases e:xs[i]? with
    | none=>rfl
    | some x=>simp[idx i x e]
  have comp:=CJ (tgt:= .pair "at" "tree") (chk:=some (ls,.list xs)) (elt:=Bw [(Ab "tree"),(Ab "at")]) (ρ:= []) (σ:=σ) (g:=fun v=>match v with | .tup [i,x]=> .tup [x,i] | v=>v) (decide_eq_true hs) (xs.zipIdx.map fun p=>SV.tup [.int (p.2:Int),p.1]) (by
    intro x hx
    obtain⟨p,hp,rfl⟩:=List.mem_map.mp hx
    exact⟨_,rfl,rfl⟩)
  rw[kv0] at comp
  have hl:(Ba xs xs.idxOf).length≤1000:=(List.length_map (as:=xs) _).symm▸Nat.le_trans K.len (by decide)
  have fill:=GI (ps:=Ba xs xs.idxOf) (d:= []) (fun p hp=>List.all_eq_true.mp (K.keys (lab:=xs.idxOf)) p hp) rfl (by rw[List.nil_append,Ia]; exact K.nodup) (AL (Nat.le_trans (Nat.le_of_eq (Nat.zero_add _)) hl))
  rw[List.nil_append] at fill
  have ln:((Ba xs xs.idxOf).map fun p=>SV.tup [p.1,p.2]).length<lim:=AL (by rw[List.length_map]; exact hl)
  generalize hM:((Ba xs xs.idxOf).map fun p=>SV.tup [p.1,p.2])=M at *
  have e1:Bi (.pair "home" "is_new") (Bw [(EK (Bb [] (.pair "at" "tree") (MU (Ab "some")) [] (Bw [(Ab "tree"),(Ab "at")]))),(Ag (.bool true))]) [("some",.loc ls),("told",.loc lt)] σ =
      some (.next, [("some",.loc ls),("told",.loc lt),("home",.loc (σ.length+1)),("is_new",.bool true)],σ ++ [.list M,.dict (Ba xs xs.idxOf) 0]):=by
    have e:=MD (Cy (t:= .pair "at" "tree") (caps:= []) (s:=MU (Ab "some")) (ρ:= [("some",.loc ls),("told",.loc lt)]) (Az (Ao rfl) (Dh hs rfl)) comp ln) AE fill
    rw[List.append_assoc,List.length_append] at e
    exact Go (EV (AA e (AA rfl rfl))) rfl
  obtain⟨ρ',τ',g1,lab,c,sd,fin⟩:=GW (t:=AJ (Ab "is_new")) (body:=AC (Bi (.name "is_new") (Ag (.bool false))) (CN (.name "tree") (Bn (Ab "some")) (CN (.name "late") (Bn (Ab "some")) EB)))
    (fun m ρ τ=>∃lab n,CSt σ xs ls lt ρ τ lab n∧HA R xs lab∧m=E7 lab xs+(if n then 1 else 0)∧(n=false→∀a,a∈xs→∀b,b∈xs→¬ D3 T lab a b))
    (fun ρ τ=>∃lab,CSt σ xs ls lt ρ τ lab false∧HA R xs lab∧∀a,a∈xs→∀b,b∈xs→¬ D3 T lab a b) (by
      intro m ρ τ hrin; obtain⟨lab,n,c,sd,rfl,fin⟩:=hrin
      refine⟨n,τ,Gm (Ao c.new),fun hb=>?_,fun hb=>?_⟩
      · subst hb; exact⟨lab,c,sd,fin rfl⟩
      · subst hb
        obtain⟨lh,ver,q1,hh⟩:=c.home
        have c':CSt σ xs ls lt (Rho.put ρ "is_new" (.bool false)) τ lab false:=⟨c.ext,Au c.lsome (by decide),Au c.ltold (by decide),AP,lh,ver,Au q1 (by decide),hh⟩
        obtain⟨ρ2,τ2,lab2,n2,e2,c2,p2⟩:=Rz K C hT hTR hs ht c' sd
        refine⟨ρ2,τ2,E7 lab2 xs+(if n2 then 1 else 0),CT rfl e2,?_,lab2,n2,c2,p2.sound,rfl,fun w=>?_⟩
        · cases n2 with
          | true=>exact Nat.succ_lt_succ (p2.lt rfl)
          | false=>exact(p2.eq rfl).1▸Nat.lt_succ_self _
        · obtain⟨w1,w2⟩:=p2.eq w
          rw[w1]; exact w2) (m:=E7 xs.idxOf xs+1) (ρ:= [("some",.loc ls),("told",.loc lt),("home",.loc (σ.length+1)),("is_new",.bool true)]) (σ:=σ ++ [.list M,.dict (Ba xs xs.idxOf) 0]) (by
        have:=NS (f:=xs.idxOf) (b:=28) (xs:=xs) fun x hx=>by have:=List.idxOf_lt_length_of_mem hx; have:=K.len; omega
        have:xs.length*28≤28*28:=Nat.mul_le_mul_right _ K.len
        unfold FR; omega) ⟨xs.idxOf,true,⟨⟨_,rfl⟩,rfl,rfl,rfl,σ.length+1,0,rfl,WL⟩,(fun x y hx hy e=>by
        have h1:=List.getElem_idxOf (List.idxOf_lt_length_of_mem hx)
        have h2:=List.getElem_idxOf (List.idxOf_lt_length_of_mem hy)
        have:x=y:=by rw[←h1, ←h2]; simp only[e]
        subst this; exact C.refl x),rfl,nofun⟩
  obtain⟨t,rfl⟩:=c.ext
  obtain⟨lh,ver,q1,hh⟩:=c.home
  exact⟨t,lh,ver,lab,BF rfl (P5▸Bf e1 (Bf g1 (BC (Ao q1)))),hh,sd,fin⟩
end Mine.P
namespace Mine.P
open scoped Classical
variable {σ σ':Hp}{h:Nat}{H:AH}{L:Lc}{td:Nat}{R:SV→SV→Prop}{S:SV→Prop}{X:Option Nat}{cs:List Int}{s s':Nat}
noncomputable def Wi:Ev:=(eIf (AJ (AM .isin (Ab "c") (AB "Heap" "classes" Eg (Aq "Join" (Ab "both") "heap") []))) (AB "Heap" "members" Fb (Aq "Join" (Ab "both") "heap") [(Ab "c")]) (Cc []))
noncomputable def Wj:Ev:=(DA (Bb ["home", "tree"] (.name "late") (Bn (Ab "home")) [(AJ (AM .eq (Ap (Ab "home") (Ab "late")) (Ap (Ab "home") (Ab "tree"))))] (Ab "late")))
noncomputable def OJ:Ev:=(AB "Join" "class_of" Dj (Ab "both") [(Ab "side"),(Ab "n")])
noncomputable def SR:Ev:=(DA (Bb ["both"] (.name "m") (Bn (Ab "row")) [] (AB "Bank" "term" EL (Aq "Heap" (Aq "Join" (Ab "both") "heap") "bank") [(Ab "m")])))
noncomputable def Pv:Tv:=(tOr (AJ (AM .ne SR (Ab "due"))) (tOr (AJ (AM .ne (Ap (Ab "row") (Ag (.int 0))) (Ab "c"))) (AJ (AM .ne OJ (Ab "c")))))
noncomputable def FV:Ex:=(AC (Bi (.name "c") OJ) (AC (Bi (.name "row") Wi) (AC (Bi (.name "due") Wj) (xIf Pv (BH (Ag (.bool false))) Ck))))
theorem in_list {l:Nat}{xs:List SV}{x:SV}{r:Option Bool}(hl:σ[l]? =some (.list xs))(h:C9 σ x xs=r):Cp .isin x (.loc l) σ=r:=by
  show(match σ[l]? with | some (.list xs)=>C9 σ x xs | some (.dict kvs _)=>if Bz x kvs then some ((kvs.lookup x).isSome) else none | _=>none)=_
  rw[hl]; exact h
theorem Jn {ds:List SV}(hl:ds.length≤40)(sub:∀x,x∈ds→IsT 2 x):EX ds=true:=
  (Bool.and_eq_true_iff).mpr ⟨decide_eq_true (Nat.lt_of_le_of_lt hl (by decide)),(Bool.or_eq_true_iff).mpr (.inr (List.all_eq_true.mpr fun x hx=>(Bool.and_eq_true_iff).mpr ⟨(sub x hx).tree,(sub x hx).tupKey (by decide)⟩))⟩
theorem XS {b:Bool}:cond b (some (true,σ)) (some (false,σ))=some (b,σ):=match b with | true=>rfl | false=>rfl
theorem as2 {α:Type}{a b c:List α}:a++b++c=a++(b++c):=List.append_assoc ..
theorem as3 {α:Type}{a b c d:List α}:a++b++c++d=a++(b++c++d):=as2.trans (as2.trans (congrArg (a ++ ·) as2.symm))
theorem XT {lj lp c:Nat}(A:HeapAt σ (lj+1) H L)(W:WF H td R S X)(hi:σ[lj]? =some (.inst "Join" [("heap",.loc (lj+1)),("places",.loc lp)]))(hc:c<H.n)(hr:H.r c=c){ρ:Rho}(q1:ρ.lookup "both" =some (.loc lj))(q2:ρ.lookup "c" =some (.int (c:Int))):
    ∃ys t lr,Wi ρ σ=some (.loc lr,σ++t)∧(σ++t)[lr]? =some (.list (Aj ys))∧ys.Nodup∧(∀x,x∈ys↔x<H.n∧H.r x=c)∧ys[0]? =some c:=by
  have hn:=W.nb
  have cl:=KU A hn
  obtain⟨ms,hm,hms⟩:=A.lot c hc
  obtain⟨nd,mem⟩:=hms hr
  have ml:=BX H.n ms nd fun u hu=>((mem u).mp hu).1
  have A1:=A.app [.list (Aj (BK H.n H.r))]
  have mb:=Ri A1 hn hc (xs:=ms) (by rw[hr]; exact Ae hm) (by omega)
  obtain⟨ys,es,ps,srt⟩:=LT ms
  rw[es] at mb
  have hi1:=Ae (t:= [SObj.list (Aj (BK H.n H.r))]) hi
  have inC:C9 (σ ++ [SObj.list (Aj (BK H.n H.r))]) (.int (c:Int)) (Aj (BK H.n H.r))=some true:=by
    have:=JR (σ:=σ ++ [SObj.list (Aj (BK H.n H.r))]) (k:=0) (m:=0) (x:= .int (c:Int)) (xs:=Aj (BK H.n H.r)) rfl (by decide) (by decide) fun y hy=>by
      obtain⟨k,_,rfl⟩:=CZ.mp hy
      rfl
    exact this.trans (congrArg some (decide_eq_true (CZ.mpr ⟨c,List.mem_filter.mpr ⟨List.mem_range.mpr hc,decide_eq_true hr⟩,rfl⟩)))
  have memy:∀x,x∈ys↔x<H.n∧H.r x=c:=fun x=>by rw[ps.mem_iff,mem]
  refine⟨ys,_,_,(H5 (Bq (Ao q2) (AG (Jh (Ao q1) hi rfl) A.inst rfl rfl cl) (in_list AE inC)) (AG (Jh (Ao q1) hi1 rfl) A1.inst rfl (AA (Ao q2) rfl) mb)).trans (congrArg (fun s=>some (_,s)) as2),as2▸AE,ps.nodup_iff.mpr nd,memy,?_⟩
  · have cy:c∈ys:=(memy c).mpr ⟨hc,hr⟩
    cases ys with
    | nil=>exact absurd cy List.not_mem_nil
    | cons y ys=>
      have h1:y≤c:=by
        rcases List.mem_cons.mp cy with w | w
        · omega
        · exact(List.pairwise_cons.mp srt).1 c w
      obtain⟨h2,h3⟩:=(memy y).mp List.mem_cons_self
      have:=W.rle y
      have:y=c:=by omega
      rw[this]; rfl
theorem XU {xs:List SV}(K:KT xs){lab:SV→Nat}{lh ver:Nat}(hh:σ[lh]? =some (.dict (Ba xs lab) ver)){a:SV}(ha:a∈xs){ρ:Rho}(q1:ρ.lookup "home" =some (.loc lh))(q2:ρ.lookup "tree" =some a):
    ∃t ld,Wj ρ σ=some (.loc ld,σ++t)∧(σ++t)[ld]? =some (.list (AS (xs.filter fun x=>decide (lab x=lab a)))):=by
  have comp:=Hm (tgt:= .name "late") (chk:=some (lh,.dict (Ba xs lab) ver)) (ts:= [AJ (AM .eq (Ap (Ab "home") (Ab "late")) (Ap (Ab "home") (Ab "tree")))]) (elt:=Ab "late") (ρ:= [("home",.loc lh),("tree",a)]) (σ:=σ) (g:=id) (p:=fun x=>decide (lab x=lab a))
    (decide_eq_true hh) xs (by
      intro x hx
      refine⟨_,rfl,Az (Bq (GJ K hh rfl rfl hx) (GJ K hh rfl rfl ha) ?_) XS,fun _=>rfl⟩
      by_cases e:lab x=lab a
      · rw[decide_eq_true e]; exact Iq (congrArg _ e)
      · rw[decide_eq_false e]; exact JL (Dm e))
  rw[List.map_id] at comp
  have ll:=List.length_filter_le (fun x=>decide (lab x=lab a)) xs
  have kl:=K.len
  have sub:∀x,x∈xs.filter (fun x=>decide (lab x=lab a))→IsT 2 x:=fun x hx=>K.isT x (List.mem_filter.mp hx).1
  generalize xs.filter (fun x=>decide (lab x=lab a))=ds at *
  exact⟨_,_,(FO (Cy (Cf (Ao q1) (Rd hh Ia)) (by rw[BW q1,BW q2]; exact comp) (AL (Nat.le_trans ll (Nat.le_trans kl (by decide))))) (Dw AE) (Jn (Nat.le_trans ll (Nat.le_trans kl (by decide))) sub)).trans (congrArg (fun s=>some (_,s)) as2),as2▸AE⟩
theorem Wa {lj lp lr:Nat}(A:HeapAt σ (lj+1) H L)(W:WF H td R S X)(hi:σ[lj]? =some (.inst "Join" [("heap",.loc (lj+1)),("places",.loc lp)])){ys:List Nat}(hr:σ[lr]? =some (.list (Aj ys)))(nd:ys.Nodup)(hy:∀x,x∈ys→x<H.n)(hT:∀i,i<H.n→IsT 2 (H.tm i))
    {ρ:Rho} (q1:ρ.lookup "both" =some (.loc lj)) (q2:ρ.lookup "row" =some (.loc lr)):
    ∃t lt,SR ρ σ=some (.loc lt,σ++t)∧(σ++t)[lt]? =some (.list (AS (ys.map H.tm))):=by
  have yl:=BX H.n ys nd hy
  have hn:=W.nb
  obtain⟨t,comp⟩:=IN (tgt:= .name "m") (chk:=some (lr,.list (Aj ys))) (elt:=AB "Bank" "term" EL (Aq "Heap" (Aq "Join" (Ab "both") "heap") "bank") [(Ab "m")]) (ρ:= [("both",.loc lj)]) (σ:=σ) (g:=fun x=>match x with | .int x=>H.tm x.toNat | v=>v)
    (fun t=>decide_eq_true (Ae hr)) (Aj ys) [] (by
      intro x hx t
      obtain⟨k,hk,rfl⟩:=CZ.mp hx
      have At:=A.app t
      obtain⟨t',e⟩:=U8 At W (hy k hk)
      have hi':=Ae (t:=t) hi
      exact⟨_,t',rfl,AG (Jh (Jh rfl hi' rfl) At.inst rfl) At.bank rfl (AA rfl rfl) e⟩)
  have e:(Aj ys).map (fun x=>match x with | .int x=>H.tm x.toNat | v=>v)=ys.map H.tm:=by
    rw[Aj,List.map_map]; rfl
  rw[e,List.append_nil] at comp
  have sub:∀x,x∈ys.map H.tm→IsT 2 x:=fun x hx=>by
    obtain⟨k,hk,rfl⟩:=List.mem_map.mp hx
    exact hT k (hy k hk)
  have dl:(ys.map H.tm).length≤40:=(List.length_map (as:=ys) _).symm▸Nat.le_trans yl hn
  generalize ys.map H.tm=ds at *
  exact⟨_,_,(FO (Cy (Cf (Ao q2) (D7 hr)) (by rw[BW q1]; exact comp) (AL (Nat.le_trans dl (by decide)))) (Dw AE) (Jn dl sub)).trans (congrArg (fun s=>some (_,s)) as3),as3▸AE⟩
end Mine.P
namespace Mine.P
open scoped Classical
variable {σ σ':Hp}{h:Nat}{H:AH}{L:Lc}{td:Nat}{R:SV→SV→Prop}{S:SV→Prop}{X:Option Nat}{cs:List Int}{s s':Nat}
theorem Se {ds:List SV}(h:∀x,x∈ds→IsT 2 x):SV.areKeysD 3 ds=true:=by
  induction ds with
  | nil=>rfl
  | cons x xs ih=>rw[SV.areKeysD,show x.isKeyD 3=true from(h x List.mem_cons_self).key,ih fun y hy=>h y (List.mem_cons_of_mem _ hy)]; rfl
theorem T9 {xs:List SV}(K:KT xs){lab:SV→Nat}{lj lp f0 f1 lh ver ns:Nat}{pl:Nat→Nat}(A:HeapAt σ (lj+1) H L)(W:WF H td R S X)(hi:σ[lj]? =some (.inst "Join" [("heap",.loc (lj+1)),("places",.loc lp)]))(hp:σ[lp]? =some (.list [.loc f0,.loc f1]))
    {side:Nat} (hside:side<2) (hf:σ[if side=0 then f0 else f1]? =some (.list (rng ns fun i=> .int (pl i:Nat)))) (hh:σ[lh]? =some (.dict (Ba xs lab) ver))
    (eqv:∀i j,i<H.n→j<H.n→(H.r i=H.r j↔lab (H.tm i)=lab (H.tm j))) (cov:∀x,x∈xs→∃i,i<H.n∧H.tm i=x) (inx:∀i,i<H.n→H.tm i∈xs) {i:Nat} (hin:i<ns) (hpl:pl i<H.n)
    {ρ:Rho} (q1:ρ.lookup "both" =some (.loc lj)) (q2:ρ.lookup "home" =some (.loc lh)) (q3:ρ.lookup "side" =some (.int (side:Int))) (q4:ρ.lookup "tree" =some (H.tm (pl i))) (q5:ρ.lookup "n" =some (.int (i:Int))):
    ∃ρ' t,FV ρ σ=some (.next,ρ',σ++t)∧∀y,y≠ "c" →y≠ "row" →y≠ "due" →ρ'.lookup y=ρ.lookup y:=by
  have c0:=class_of hi hp hside hf A W hin hpl
  have ce:∀{τ:Hp} {ρ:Rho},τ[lj]? =some (.inst "Join" [("heap",.loc (lj+1)),("places",.loc lp)])→Dj [.loc lj,.int (side:Int),.int (i:Int)] τ=some (.int (H.r (pl i):Int),τ)→ρ.lookup "both" =some (.loc lj)→ρ.lookup "side" =some (.int (side:Int))→ρ.lookup "n" =some (.int (i:Int))→
      OJ ρ τ=some (.int (H.r (pl i):Int),τ):=by
    intro τ ρ h1 h2 h3 h4 h5
    exact AG (Ao h3) h1 rfl (AA (Ao h4) (AA (Ao h5) rfl)) h2
  have c1:=ce hi c0 q1 q3 q5
  have rn:=W.rlt hpl
  generalize hρ1:Rho.put ρ "c" (.int (H.r (pl i):Int))=ρ1
  have l1:∀y,y≠ "c" →ρ1.lookup y=ρ.lookup y:=fun y h=>by rw[←hρ1,AK,if_neg h]
  obtain⟨ys,t1,lr,e1,r1,nd,mem,y0⟩:=XT A W hi rn (W.rr _) (ρ:=ρ1) ((l1 _ (by decide)).trans q1) (hρ1▸AP)
  generalize hρ2:Rho.put ρ1 "row" (.loc lr)=ρ2
  have l2:∀y,y≠ "c" →y≠ "row" →ρ2.lookup y=ρ.lookup y:=fun y h h'=>by rw[←hρ2,AK,if_neg h',l1 y h]
  have ta:=inx _ hpl
  obtain⟨t2,ld,e2,r2⟩:=XU K (Ae (t:=t1) hh) ta (ρ:=ρ2) ((l2 _ (by decide) (by decide)).trans q2) ((l2 _ (by decide) (by decide)).trans q4)
  generalize hρ3:Rho.put ρ2 "due" (.loc ld)=ρ3
  have l3:∀y,y≠ "c" →y≠ "row" →y≠ "due" →ρ3.lookup y=ρ.lookup y:=fun y h h' h''=>by rw[←hρ3,AK,if_neg h'',l2 y h h']
  have w3:ρ3.lookup "row" =some (.loc lr):=hρ3▸Au (hρ2▸AP) (by decide)
  have c3:ρ3.lookup "c" =some (.int (H.r (pl i):Int)):=hρ3▸Au (hρ2▸Au (hρ1▸AP) (by decide)) (by decide)
  have d3:ρ3.lookup "due" =some (.loc ld):=hρ3▸AP
  have A2:=(A.app t1).app t2
  have hi2:=Ae (t:=t2) (Ae (t:=t1) hi)
  have yn:∀x,x∈ys→x<H.n:=fun x hx=>((mem x).mp hx).1
  obtain⟨t3,lt,e3,r3⟩:=Wa A2 W hi2 (Ae (t:=t2) r1) nd yn (fun i hi=>K.isT _ (inx i hi)) (ρ:=ρ3) ((l3 _ (by decide) (by decide) (by decide)).trans q1) w3
  have perm:(ys.map H.tm).Perm (xs.filter fun x=>decide (lab x=lab (H.tm (pl i)))):=by
    have n1:(ys.map H.tm).Nodup:=by
      refine List.pairwise_map.mpr (nd.imp_of_mem fun {a b} ha hb hne q=>hne (W.inj a b (yn a ha) (yn b hb) q))
    have n2:(xs.filter fun x=>decide (lab x=lab (H.tm (pl i)))).Nodup:=K.nodup.filter _
    rw[List.perm_ext_iff_of_nodup n1 n2]
    intro x
    rw[List.mem_map,List.mem_filter]
    constructor
    · intro hrin; obtain⟨m,hm,rfl⟩:=hrin
      obtain⟨h1,h2⟩:=(mem m).mp hm
      refine⟨inx m h1,?_⟩
      rw[decide_eq_true_iff]
      refine(eqv m (pl i) h1 hpl).mp ?_
      rw[h2]
    · intro hrin; obtain⟨hx,hd⟩:=hrin
      rw[decide_eq_true_iff] at hd
      obtain⟨m,hm,rfl⟩:=cov x hx
      exact⟨m,(mem m).mpr ⟨hm,(eqv m (pl i) hm hpl).mpr hd⟩,rfl⟩
  have same:AS (xs.filter fun x=>decide (lab x=lab (H.tm (pl i))))=AS (ys.map H.tm):=TO (fun x hx=>(K.isT x (List.mem_filter.mp hx).1).tree) perm
  have kd:SV.areKeysD 3 (AS (ys.map H.tm))=true:=Se fun x hx=>by
    obtain⟨m,hm,rfl⟩:=List.mem_map.mp (MC.mp hx)
    exact K.isT _ (inx m (yn m hm))
  have eq3:=JK (σ:=σ++t1++t2++t3) (k:=3) (m:=3) r3 (Ae (t:=t3) r2) kd (by rw[same]; exact kd) (by unfold Cs; omega) (by unfold Cs; omega)
  rw[same,decide_eq_true rfl] at eq3
  have hi3:=Ae (t:=t3) hi2
  have hp3:=Ae (t:=t3) (Ae (t:=t2) (Ae (t:=t1) hp))
  have hf3:=Ae (t:=t3) (Ae (t:=t2) (Ae (t:=t1) hf))
  have c4:=ce (ρ:=ρ3) hi3 (class_of hi3 hp3 hside hf3 (A2.app t3) W hin hpl) ((l3 _ (by decide) (by decide) (by decide)).trans q1) ((l3 _ (by decide) (by decide) (by decide)).trans q3) ((l3 _ (by decide) (by decide) (by decide)).trans q5)
  have r4:=Ae (t:=t3) (Ae (t:=t2) r1)
  have y0':(Aj ys)[0]? =some (.int (H.r (pl i):Int)):=(List.getElem?_map ..).trans (Cx y0)
  have test:Pv ρ3 (σ++t1++t2)=some (false,σ++t1++t2++t3):=by
    exact Li (Bq e3 (Ao d3) (Cx (F:=(!·)) eq3)) (Li (Bq (BN (Ao w3) rfl r4 (CX y0')) (Ao c3) (Ir rfl)) (Bq c4 (Ao c3) (Ir rfl)))
  have B:FV ρ σ=some (.next,ρ3,σ++t1++t2++t3):=by
    refine CT c1 ?_
    rw[hρ1]; refine CT e1 ?_
    rw[hρ2]; refine CT e2 ?_
    rw[hρ3]; exact DY test rfl
  exact⟨ρ3,t1++t2++t3,B.trans (congrArg (fun s=>some (Flw.next,_,s)) as3),l3⟩
end Mine.P
namespace Mine.P
open scoped Classical
variable {σ σ':Hp}{h:Nat}{H:AH}{L:Lc}{td:Nat}{R:SV→SV→Prop}{S:SV→Prop}{X:Option Nat}{cs:List Int}{s s':Nat}
noncomputable def Ua (xs:List SV)(lab:SV→Nat)(x y:SV):Prop:=x=y∨(x∈xs∧y∈xs∧lab x=lab y)
theorem Ua.lab {xs:List SV}{lab:SV→Nat}{x y:SV}(r:Ua xs lab x y):lab x=lab y:=by
  rcases r with rfl | ⟨_,_,e⟩
  · rfl
  · exact e
theorem Ve {xs:List SV}{T:List (SV×SV)}{lab:SV→Nat}(cl:∀a,a∈xs→∀b,b∈xs→¬ D3 T lab a b):Cong (Ua xs lab) fun v=>v∈xs:=by
  refine⟨fun x=> .inl rfl,fun {x y} r=>?_,fun {x y z} r q=>?_,fun {f ks ls} hk hl len pt=>?_⟩
  · rcases r with rfl | ⟨a,b,c⟩
    · exact .inl rfl
    · exact .inr ⟨b,a,c.symm⟩
  · rcases r with rfl | ⟨a,b,c⟩
    · exact q
    · rcases q with rfl | ⟨a',b',c'⟩
      · exact .inr ⟨a,b,c⟩
      · exact .inr ⟨a,b',c.trans c'⟩
  · refine .inr ⟨hk,hl,?_⟩
    by_cases e:lab (.tup (.str f::ks))=lab (.tup (.str f::ls))
    · exact e
    · refine absurd ⟨e,.inl ⟨rfl,?_⟩⟩ (cl _ hk _ hl)
      simp only[Fz]
      apply List.ext_getElem?
      intro t
      rw[List.getElem?_map,List.getElem?_map]
      cases e1:ks[t]? with
      | none=>
        have:ls[t]? =none:=by rw[List.getElem?_eq_none_iff] at e1 ⊢; omega
        rw[this]
      | some u=>
        have ht:=(List.getElem?_eq_some_iff.mp e1).1
        have e2:ls[t]? =some (ls[t]'(by omega)):=List.getElem?_eq_getElem (by omega)
        rw[e2]
        simp only[Option.map_some,Option.some.injEq]
        exact(pt t u _ e1 e2).lab
noncomputable def Rj (H:AH)(x y:SV):Prop:=x=y∨∃i j,i<H.n∧j<H.n∧H.tm i=x∧H.tm j=y∧H.r i=H.r j
theorem W7 {xs:List SV}(W:WF H td R S none)(hw:H.wt= [])(cov:∀x,x∈xs→∃i,i<H.n∧H.tm i=x):Cong (Rj H) fun v=>v∈xs:=by
  refine⟨fun x=> .inl rfl,fun {x y} r=>?_,fun {x y z} r q=>?_,fun {f ks ls} hk hl len pt=>?_⟩
  · rcases r with rfl | ⟨i,j,a,b,c,d,e⟩
    · exact .inl rfl
    · exact .inr ⟨j,i,b,a,d,c,e.symm⟩
  · rcases r with rfl | ⟨i,j,a,b,c,d,e⟩
    · exact q
    · rcases q with rfl | ⟨i',j',a',b',c',d',e'⟩
      · exact .inr ⟨i,j,a,b,c,d,e⟩
      · have:j=i':=W.inj j i' b a' (by rw[d,c'])
        subst this
        exact .inr ⟨i,j',a,b',c,d',e.trans e'⟩
  · obtain⟨i,hi,ei⟩:=cov _ hk
    obtain⟨j,hj,ej⟩:=cov _ hl
    refine .inr ⟨i,j,hi,hj,ei,ej,Rp W hw hi hj ?_⟩
    have t1:=W.tmE i hi; have t2:=W.tmE j hj
    rw[ei] at t1; rw[ej] at t2
    simp only[SV.tup.injEq,List.cons.injEq,SV.str.injEq] at t1 t2
    unfold BD
    have kk:(H.nd i).2.map H.r=(H.nd j).2.map H.r:=by
      have l1:ks.length=(H.nd i).2.length:=by rw[t1.2]; simp
      have l2:ls.length=(H.nd j).2.length:=by rw[t2.2]; simp
      apply List.ext_getElem?
      intro t
      rw[List.getElem?_map,List.getElem?_map]
      cases e1:(H.nd i).2[t]? with
      | none=>
        have:(H.nd j).2[t]? =none:=by rw[List.getElem?_eq_none_iff] at e1 ⊢; omega
        rw[this]
      | some u=>
        have ht:=(List.getElem?_eq_some_iff.mp e1).1
        have e2:(H.nd j).2[t]? =some ((H.nd j).2[t]'(by omega)):=List.getElem?_eq_getElem (by omega)
        generalize (H.nd j).2[t]'(by omega)=v at e2
        rw[e2]
        simp only[Option.map_some,Option.some.injEq]
        have un:=W.kidn hi (List.mem_of_getElem? e1)
        have vn:=W.kidn hj (List.mem_of_getElem? e2)
        have p1:ks[t]? =some (H.tm u):=by rw[t1.2,List.getElem?_map,e1]; rfl
        have p2:ls[t]? =some (H.tm v):=by rw[t2.2,List.getElem?_map,e2]; rfl
        rcases pt t _ _ p1 p2 with w | ⟨i',j',a,b,c,d,e⟩
        · rw[W.inj u v un vn w]
        · have:i'=u:=W.inj i' u a un c
          have:j'=v:=W.inj j' v b vn d
          subst_vars; exact e
    rw[kk, ←t1.1, ←t2.1]
structure SideC (σ:Hp) (xs:List SV) (T:List (SV×SV)) (h ln:Nat) (H:AH) (L:Lc) (td:Nat) (R:SV→SV→Prop) (S:SV→Prop):Prop where
  heap:HeapAt σ h H L
  wf:WF H td R S none
  nums:∃ver,σ[ln]? =some (.dict (rng H.n fun i=>(H.tm i,.int (i:Int))) ver)
  inx:∀i,i<H.n→H.tm i∈xs
  sound:∀i j,i<H.n→j<H.n→H.r i=H.r j→LC xs T (H.tm i) (H.tm j)
noncomputable def Ib (H:AH)(p:SV×SV):Prop:=∃i j,i<H.n∧j<H.n∧H.tm i=p.1∧H.tm j=p.2∧H.r i=H.r j
theorem Ub {xs:List SV}(K:KT xs){lab:SV→Nat}{lj lp f0 f1 lh ver:Nat}{pl:Nat→Nat}{Hs:AH}(A:HeapAt σ (lj+1) H L)(W:WF H td R S X)(hi:σ[lj]? =some (.inst "Join" [("heap",.loc (lj+1)),("places",.loc lp)]))(hp:σ[lp]? =some (.list [.loc f0,.loc f1]))
    {side:Nat} (hside:side<2) (hf:σ[if side=0 then f0 else f1]? =some (.list (rng Hs.n fun i=> .int (pl i:Nat)))) (hh:σ[lh]? =some (.dict (Ba xs lab) ver))
    (eqv:∀i j,i<H.n→j<H.n→(H.r i=H.r j↔lab (H.tm i)=lab (H.tm j))) (cov:∀x,x∈xs→∃i,i<H.n∧H.tm i=x) (inx:∀i,i<H.n→H.tm i∈xs) (P:Places Hs H pl Hs.n)
    {ln vn:Nat} (hn:σ[ln]? =some (.dict (rng Hs.n fun i=>(Hs.tm i,.int (i:Int))) vn)) {e:Ev} {ρ:Rho} (he:e ρ σ=some (.loc ln,σ)) (q1:ρ.lookup "both" =some (.loc lj)) (q2:ρ.lookup "home" =some (.loc lh)) (q3:ρ.lookup "side" =some (.int (side:Int))):
    ∃ρ' t,CN (.pair "tree" "n") (FW e) FV ρ σ=some (.next,ρ',σ++t)∧∀y,y≠ "tree" →y≠ "n" →y≠ "c" →y≠ "row" →y≠ "due" →ρ'.lookup y=ρ.lookup y:=by
  obtain⟨ρ',τ,g1,⟨t,rfl⟩,g2,_⟩:=CC (tgt:= .pair "tree" "n") (chk:=some (ln,.dict (rng Hs.n fun i=>(Hs.tm i,.int (i:Int))) vn)) (body:=FV)
    (fun zs ρ' τ=>(∃t,τ=σ++t)∧(∀y,y≠ "tree" →y≠ "n" →y≠ "c" →y≠ "row" →y≠ "due" →ρ'.lookup y=ρ.lookup y)∧∀z,z∈zs→∃i,i<Hs.n∧z=SV.tup [Hs.tm i,.int (i:Int)])
    (fun zs ρ' τ hI=>hI.1.elim fun t e=>decide_eq_true (e▸Ae hn)) (by
      intro z zs ρ' τ hrin; obtain⟨⟨t,rfl⟩,g2,g3⟩:=hrin
      obtain⟨i,hi',rfl⟩:=g3 z List.mem_cons_self
      obtain⟨ρ2,t2,b1,b2⟩:=T9 K (A.app t) W (Ae hi) (Ae hp) hside (Ae hf) (Ae hh) eqv cov inx hi' (P.lt i hi') (ρ:=Rho.put (Rho.put ρ' "tree" (Hs.tm i)) "n" (.int (i:Int)))
        (by rw[AK,if_neg (by decide),AK,if_neg (by decide),g2 _ (by decide) (by decide) (by decide) (by decide) (by decide)]; exact q1)
        (by rw[AK,if_neg (by decide),AK,if_neg (by decide),g2 _ (by decide) (by decide) (by decide) (by decide) (by decide)]; exact q2)
        (by rw[AK,if_neg (by decide),AK,if_neg (by decide),g2 _ (by decide) (by decide) (by decide) (by decide) (by decide)]; exact q3)
        (by rw[AK,if_neg (by decide),AK,if_pos rfl,P.tm i hi']) (by rw[AK,if_pos rfl])
      refine⟨_,ρ2,_,rfl,b1,⟨t++t2,by simp⟩,fun y h1 h2 h3 h4 h5=>?_,fun z hz=>g3 z (List.mem_cons_of_mem _ hz)⟩
      rw[b2 y h3 h4 h5,AK,if_neg h2,AK,if_neg h1,g2 y h1 h2 h3 h4 h5]) ((rng Hs.n fun i=>(Hs.tm i,SV.int (i:Int))).map fun p=>SV.tup [p.1,p.2]) ρ σ
    ⟨⟨[],by simp⟩,fun _ _ _ _ _ _=>rfl,fun z hz=>by
      rw[GG] at hz
      obtain⟨i,hi,rfl⟩:=HJ.mp hz
      exact⟨i,hi,rfl⟩⟩
  exact⟨ρ',t,FI (SD he hn) g1,g2⟩
theorem KZ {xs:List SV}(K:KT xs){T:List (SV×SV)}{lab:SV→Nat}(sd:HA (LC xs T) xs lab)(cl:∀a,a∈xs→∀b,b∈xs→¬ D3 T lab a b)(hT:∀p,p∈T→p.1∈xs∧p.2∈xs)
    {h0 h1 ln0 ln1 lt0 lt1 lS lh ver:Nat} {H0 H1:AH} {L0 L1:Lc} {t0 t1:Nat} {R0 R1:SV→SV→Prop} {S0 S1:SV→Prop} (C0:SideC σ xs T h0 ln0 H0 L0 t0 R0 S0) (C1:SideC σ xs T h1 ln1 H1 L1 t1 R1 S1)
    (hn:H0.n+H1.n≤40) (cov:∀x,x∈xs→(∃i,i<H0.n∧H0.tm i=x)∨∃i,i<H1.n∧H1.tm i=x) (told:∀p,p∈T→Ib H0 p∨Ib H1 p)
    (hS:σ[lS]? =some (.list [.tup [.loc h0,.loc ln0,.loc lt0],.tup [.loc h1,.loc ln1,.loc lt1]])) (hh:σ[lh]? =some (.dict (Ba xs lab) ver)):
    ∃σ',Fc [.loc lS,.loc lh] σ=some (.bool true,σ')∧σ.length≤σ'.length∧∀l,l<σ.length→σ'[l]? =σ[l]?:=by
  obtain⟨σ1,lp,f0,f1,pl0,pl1,H,L,e1,J⟩:=Vc (Jl (xs:=xs) (T:=T)) C0.heap C0.wf C1.heap C1.wf hn C0.inx C1.inx C0.sound C1.sound
  have W:=J.wf
  have old:∀{l o},σ[l]? =some o→σ1[l]? =some o:=fun {l o} e=>by rw[J.keep l (AN e)]; exact e
  have inx:∀i,i<H.n→H.tm i∈xs:=W.inS
  have cov':∀x,x∈xs→∃i,i<H.n∧H.tm i=x:=fun x hx=>by
    rcases cov x hx with⟨i,hi,e⟩ | ⟨i,hi,e⟩
    · exact⟨pl0 i,J.p0.lt i hi,by rw[J.p0.tm i hi,e]⟩
    · exact⟨pl1 i,J.p1.lt i hi,by rw[J.p1.tm i hi,e]⟩
  have toldJ:∀p,p∈T→Rj H p.1 p.2:=fun p hp=>by
    rcases told p hp with⟨i,j,hi,hj,ei,ej,er⟩ | ⟨i,j,hi,hj,ei,ej,er⟩
    · exact .inr ⟨pl0 i,pl0 j,J.p0.lt i hi,J.p0.lt j hj,by rw[J.p0.tm i hi,ei],by rw[J.p0.tm j hj,ej],by rw[←J.p0.r i hi, ←J.p0.r j hj,er]⟩
    · exact .inr ⟨pl1 i,pl1 j,J.p1.lt i hi,J.p1.lt j hj,by rw[J.p1.tm i hi,ei],by rw[J.p1.tm j hj,ej],by rw[←J.p1.r i hi, ←J.p1.r j hj,er]⟩
  have eqv:∀i j,i<H.n→j<H.n→(H.r i=H.r j↔lab (H.tm i)=lab (H.tm j)):=by
    intro i j hi hj
    constructor
    · intro e
      refine(W.snd i j hi hj e (Ua xs lab) (Ve cl) fun p hp=>?_).lab
      obtain⟨x1,x2⟩:=hT p hp
      refine .inr ⟨x1,x2,?_⟩
      by_cases q:lab p.1=lab p.2
      · exact q
      · exact absurd ⟨q,.inr hp⟩ (cl _ x1 _ x2)
    · intro e
      rcases sd _ _ (inx i hi) (inx j hj) e (Rj H) (W7 W J.settled cov') toldJ with w | ⟨i',j',a,b,c,d,e2⟩
      · rw[W.inj i j hi hj w]
      · have w1:i'=i:=W.inj i' i a hi c
        have w2:j'=j:=W.inj j' j b hj d
        rw[←w1, ←w2]; exact e2
  have size:H.n=xs.length:=by
    have n1:((List.range H.n).map H.tm).Nodup:=List.pairwise_map.mpr (List.nodup_range.imp_of_mem fun {a b} ha hb hne q=>hne (W.inj a b (List.mem_range.mp ha) (List.mem_range.mp hb) q))
    have:((List.range H.n).map H.tm).Perm xs:=by
      rw[List.perm_ext_iff_of_nodup n1 K.nodup]
      intro x
      rw[List.mem_map]
      constructor
      · rintro⟨i,hi,rfl⟩; exact inx i (List.mem_range.mp hi)
      · intro hx
        obtain⟨i,hi,e⟩:=cov' x hx
        exact⟨i,List.mem_range.mpr hi,e⟩
    have:=this.length_eq
    simpa using this
  have hj:=J.inst
  have A:=J.heap
  have hl:(Ba xs lab).length=xs.length:=List.length_map _
  obtain⟨v0,n0⟩:=C0.nums
  obtain⟨v1,n1⟩:=C1.nums
  have go:∀{ρ':Rho} {t:Hp} {side ln vn h lt:Nat} {pl:Nat→Nat} {Hs:AH},side<2→σ1[if side=0 then f0 else f1]? =some (.list (rng Hs.n fun i=> .int (pl i:Nat)))→Places Hs H pl Hs.n→σ[ln]? =some (.dict (rng Hs.n fun i=>(Hs.tm i,.int (i:Int))) vn)→
      [SV.tup [.loc h0,.loc ln0,.loc lt0],.tup [.loc h1,.loc ln1,.loc lt1]][side]? =some (.tup [.loc h,.loc ln,.loc lt])→ρ'.lookup "sides" =some (.loc lS)∧ρ'.lookup "home" =some (.loc lh)∧ρ'.lookup "both" =some (.loc σ.length)→
      ∃ρ2 τ,CN (.pair "tree" "n") (FW (Ap (Ap (Ab "sides") (Ab "side")) (Ag (.int 1)))) FV (Rho.put ρ' "side" (.int side)) (σ1++t)=some (.next,ρ2,τ)∧(∃t,τ=σ1++t)∧ρ2.lookup "sides" =some (.loc lS)∧ρ2.lookup "home" =some (.loc lh)∧ρ2.lookup "both" =some (.loc σ.length):=by
    intro ρ' t side ln vn h lt pl Hs hs hf P n w q
    have p1:=Au (x:= "side") (v:= .int (side:Int)) q.1 (by decide)
    have p2:=Au (x:= "side") (v:= .int (side:Int)) q.2.1 (by decide)
    have p3:=Au (x:= "side") (v:= .int (side:Int)) q.2.2 (by decide)
    obtain⟨ρ2,t2,r1,r2⟩:=Ub K (A.app t) W (Ae hj) (Ae J.places) (side:=side) hs (Ae hf) (Ae (old hh)) eqv cov' inx P (Ae (old n)) (e:=(Ap (Ap (Ab "sides") (Ab "side")) (Ag (.int 1)))) (ρ:=Rho.put ρ' "side" (.int side))
      (Dl (BN (Ao p1) (Ao AP) (Ae (old hS)) (CX w)) rfl (by decide) rfl) p3 p2 AP
    have k:=fun y a b c d e (v:SV) (f:(Rho.put ρ' "side" (.int (side:Int))).lookup y=some v)=>(r2 y a b c d e).trans f
    exact⟨ρ2,_,r1,⟨t++t2,List.append_assoc ..⟩,k _ (by decide) (by decide) (by decide) (by decide) (by decide) _ p1,k _ (by decide) (by decide) (by decide) (by decide) (by decide) _ p2,k _ (by decide) (by decide) (by decide) (by decide) (by decide) _ p3⟩
  obtain⟨ρ',τ,g1,⟨t,rfl⟩,g2,_⟩:=CC (tgt:= .name "side") (chk:=none) (body:=CN (.pair "tree" "n") (FW (Ap (Ap (Ab "sides") (Ab "side")) (Ag (.int 1)))) FV)
    (fun zs ρ' τ=>(∃t,τ=σ1++t)∧(ρ'.lookup "sides" =some (.loc lS)∧ρ'.lookup "home" =some (.loc lh)∧ρ'.lookup "both" =some (.loc σ.length))∧∀z,z∈zs→z=SV.int 0∨z=SV.int 1) (fun _ _ _ _=>rfl) (by
      intro z zs ρ' τ hI
      obtain⟨⟨t,rfl⟩,q,g3⟩:=hI
      rcases g3 z List.mem_cons_self with rfl | rfl
      · exact(go (side:=0) (t:=t) (by decide) J.found0 J.p0 n0 rfl q).elim fun ρ2 w=>w.elim fun τ w=>⟨_,ρ2,τ,rfl,w.1,w.2.1,w.2.2,fun z hz=>g3 z (List.mem_cons_of_mem _ hz)⟩
      · exact(go (side:=1) (t:=t) (by decide) J.found1 J.p1 n1 rfl q).elim fun ρ2 w=>w.elim fun τ w=>⟨_,ρ2,τ,rfl,w.1,w.2.1,w.2.2,fun z hz=>g3 z (List.mem_cons_of_mem _ hz)⟩)
    [.int 0,.int 1] (Rho.put [("sides",.loc lS),("home",.loc lh)] "both" (.loc σ.length)) σ1 ⟨⟨[],(List.append_nil _).symm⟩,⟨rfl,rfl,rfl⟩,fun z hz=>FU hz .inl fun w=> .inr (List.mem_singleton.mp w)⟩
  exact⟨σ1++t,BF rfl (CT (Qe (AA (Dl (BN rfl rfl hS rfl) rfl (by decide) rfl) (AA (Dl (BN rfl rfl hS rfl) rfl (by decide) rfl) rfl)) e1)
    (Bf (DY (Li (Bq (AG (Bd rfl hj rfl) A.inst rfl rfl (KS A)) (XG rfl (old hh) (hl.trans size.symm)) (Ir rfl)) (Lh (Gm (AG (Bd rfl hj rfl) A.inst rfl rfl (NK A J.settled))))) rfl)
    (Bf (FI (Cf rfl (DP (show 2<lim by decide))) g1) (BC rfl)))),by rw[List.length_append]; exact Nat.le_trans J.len (Nat.le_add_right ..),fun l hl=>(List.getElem?_append_left (Nat.lt_of_lt_of_le hl J.len)).trans (J.keep l hl)⟩
end Mine.P
namespace Mine.P
open scoped Classical
open PySem
variable {σ σ':Hp}{h:Nat}{H:AH}{L:Lc}{td:Nat}{R:SV→SV→Prop}{S:SV→Prop}{X:Option Nat}{cs:List Int}{s s':Nat}
theorem Vf {σ:Hp}(n:Nat)(x:SV)(d:PyData)(h:BV n σ x=some d):PyData.eqv d d=true:=SeqAt.eqv_refl d (Jv n x d h).1
theorem JS {n:Nat}{xs:List Nat}:Dv n σ (Aj xs)=some (xs.map fun(k:Nat)=>PyData.int (k:Int)):=by
  induction xs with
  | nil=>rfl
  | cons x xs ih=>exact CA Gr ih
theorem Vg {n:Nat}{es:List SV}:(∀e,e∈es→∃d,∀σ,BV n σ e=some d)→∃ds,∀σ,Dv n σ es=some ds:=by
  induction es with
  | nil=>exact fun _=>⟨[],fun _=>rfl⟩
  | cons e es ih=>exact fun h=>(h e List.mem_cons_self).elim fun d hd=>(ih fun x hx=>h x (List.mem_cons_of_mem _ hx)).elim fun ds hds=>⟨d::ds,fun σ=>CA (hd σ) (hds σ)⟩
theorem Jo {n l:Nat}{xs:List SV}{ds:List PyData}{τ:Hp}(h:τ[l]? =some (.list xs))(hd:Dv n τ xs=some ds):BV (n+1) τ (.loc l)=some (.list ds):=by
  show(match τ[l]? with | some (.list xs)=>(Dv n τ xs).map PyData.list | _=>none)=_
  rw[h]
  exact congrArg (Option.map PyData.list) hd
theorem NT (W:WF H td R S X):∃d,∀(τ:Hp) (a b c e:Nat),τ[a]? =some (.list (Aj ((List.range H.n).map H.r)))→τ[b]? =some (.list H.ed)→τ[c]? =some (.list (Aj H.wt))→τ[e]? =some (.list (Aj (BK H.n H.r)))→
    BV 11 τ (.tup [.loc a,.loc b,.loc c,.loc e])=some d:=
  (Vg W.eok).elim fun _ hds=>⟨_,fun τ a b c e h1 h2 h3 h4=>congrArg (Option.map PyData.tuple) (CA (Jo h1 JS) (CA (Jo h2 (hds τ)) (CA (Jo h3 JS) (CA (Jo h4 JS) Id))))⟩
theorem Vh (W0:WF H td R S X){H':AH}{td':Nat}{R':SV→SV→Prop}{S':SV→Prop}{X':Option Nat}(W1:WF H' td' R' S' X'):
    ∃d,∀(τ:Hp) (l a b c e a' b' c' e':Nat),τ[l]? =some (.list [.tup [.loc a,.loc b,.loc c,.loc e],.tup [.loc a',.loc b',.loc c',.loc e']])→
      τ[a]? =some (.list (Aj ((List.range H.n).map H.r)))→τ[b]? =some (.list H.ed)→τ[c]? =some (.list (Aj H.wt))→τ[e]? =some (.list (Aj (BK H.n H.r)))→
      τ[a']? =some (.list (Aj ((List.range H'.n).map H'.r)))→τ[b']? =some (.list H'.ed)→τ[c']? =some (.list (Aj H'.wt))→τ[e']? =some (.list (Aj (BK H'.n H'.r)))→BV Cs τ (.loc l)=some d:=by
  obtain⟨d0,h0⟩:=NT W0
  obtain⟨d1,h1⟩:=NT W1
  exact⟨.list [d0,d1],fun τ l a b c e a' b' c' e' hl x1 x2 x3 x4 y1 y2 y3 y4=>Jo (n:=11) hl (CA (h0 τ a b c e x1 x2 x3 x4) (CA (h1 τ a' b' c' e' y1 y2 y3 y4) Id))⟩
theorem GT.keys {xs:List SV}(n:H.n=xs.length)(tm:∀i,i<H.n→xs[i]? =some (H.tm i)):rng H.n H.tm=xs:=by
  apply List.ext_getElem?
  intro i
  rw[Lj]
  by_cases q:i<H.n
  · rw[if_pos q,tm i q]
  · rw[if_neg q,List.getElem?_eq_none (by omega)]
theorem W9 {xs ys:List SV}(G0:GT xs)(G1:GT ys)(l0:xs.length≤14)(l1:ys.length≤14):KT (xs++ys.filter fun y=>!decide (y∈xs)):=by
  have kids0:∀x,x∈xs→∀k,k∈Fz x→k∈xs:=fun x hx k hk=>by
    obtain⟨i,hi⟩:=List.getElem?_of_mem hx
    obtain⟨j,_,e⟩:=G0.kids i x hi k hk
    exact List.mem_of_getElem? e
  have kids1:∀x,x∈ys→∀k,k∈Fz x→k∈ys:=fun x hx k hk=>by
    obtain⟨i,hi⟩:=List.getElem?_of_mem hx
    obtain⟨j,_,e⟩:=G1.kids i x hi k hk
    exact List.mem_of_getElem? e
  refine⟨fun x hx=>?_,?_,fun x hx k hk=>?_,?_⟩
  · rcases List.mem_append.mp hx with w | w
    · exact G0.isT x w
    · exact G1.isT x (List.mem_filter.mp w).1
  · refine List.nodup_append.mpr ⟨G0.nodup,G1.nodup.filter _,fun u hu v hv q=>?_⟩
    subst q
    have:=(List.mem_filter.mp hv).2
    simp[hu] at this
  · have up:k∈ys→k∈xs++ys.filter fun y=>!decide (y∈xs):=fun hk=>by
      by_cases q:k∈xs
      · exact List.mem_append_left _ q
      · exact List.mem_append_right _ (List.mem_filter.mpr ⟨hk,by simp[q]⟩)
    rcases List.mem_append.mp hx with w | w
    · exact List.mem_append_left _ (kids0 x w k hk)
    · exact up (kids1 x (List.mem_filter.mp w).1 k hk)
  · have:=List.length_filter_le (fun y=>!decide (y∈xs)) ys
    simp only[List.length_append]; omega
theorem SS {xs ys:List SV}{T U:List (SV×SV)}(hx:∀x,x∈xs→x∈ys)(hT:∀p,p∈T→p∈U){x y:SV}(l:LC xs T x y):LC ys U x y:=
  fun R C k=>l R (C.sub hx) fun p hp=>k p (hT p hp)
noncomputable def Yo:Ex:=Bi (.name "some") (eOp .add (Gs (Ap (Ap (Ab "sides") (Ag (.int 0))) (Ag (.int 1)))) (Bb ["sides"] (.name "tree") (Bn (Ap (Ap (Ab "sides") (Ag (.int 1))) (Ag (.int 1)))) [(AJ (AM .notin (Ab "tree") (Ap (Ap (Ab "sides") (Ag (.int 0))) (Ag (.int 1)))))] (Ab "tree")))
noncomputable def Yp:Ex:=Bi (.name "told") (eOp .add (Ap (Ap (Ab "sides") (Ag (.int 0))) (Ag (.int 2))) (Ap (Ap (Ab "sides") (Ag (.int 1))) (Ag (.int 2))))
noncomputable def Vi:Ev:=eOp .add (Ab "told") (Bb [] (.name "pair") (Bn (Ab "told")) [] (L7 (Ab "pair")))
noncomputable def RA:Ev:=Bb [] (.name "side") (Bn (Ab "sides")) [] (Bj D4 [(Ap (Ab "side") (Ag (.int 0)))])
noncomputable def Yq:Ex:=Bi (.pair "home" "was") (Bw [(Bj FZ [(Ab "some"),Vi]),RA])
theorem Pw {lS h0 h1 n0 n1 t0 t1:Nat}{H0 H1:AH}{L0 L1:Lc}{td0 td1:Nat}{R0 R1:SV→SV→Prop}{S0 S1:SV→Prop}{X0 X1:Option Nat}(A0:HeapAt σ h0 H0 L0)(W0:WF H0 td0 R0 S0 X0)(A1:HeapAt σ h1 H1 L1)(W1:WF H1 td1 R1 S1 X1)
    (hS:σ[lS]? =some (.list [.tup [.loc h0,.loc n0,.loc t0],.tup [.loc h1,.loc n1,.loc t1]])) {ρ:Rho} (q:ρ.lookup "sides" =some (.loc lS)):
    ∃t l a b c e a' b' c' e',RA ρ σ=some (.loc l,σ++t)∧(σ++t)[l]? =some (.list [.tup [.loc a,.loc b,.loc c,.loc e],.tup [.loc a',.loc b',.loc c',.loc e']])∧
      (σ++t)[a]? =some (.list (Aj ((List.range H0.n).map H0.r)))∧(σ++t)[b]? =some (.list H0.ed)∧(σ++t)[c]? =some (.list (Aj H0.wt))∧(σ++t)[e]? =some (.list (Aj (BK H0.n H0.r)))∧
      (σ++t)[a']? =some (.list (Aj ((List.range H1.n).map H1.r)))∧(σ++t)[b']? =some (.list H1.ed)∧(σ++t)[c']? =some (.list (Aj H1.wt))∧(σ++t)[e']? =some (.list (Aj (BK H1.n H1.r))):=by
  obtain⟨g0,e0⟩:=Ps A0 W0
  obtain⟨g1,e1⟩:=Ps (A1.app [SObj.list (Aj ((List.range H0.n).map H0.r)),.list H0.ed,.list (Aj H0.wt),g0,.list (Aj (BK H0.n H0.r))]) W1
  obtain⟨u,hu⟩:∃u, [SObj.list (Aj ((List.range H0.n).map H0.r)),.list H0.ed,.list (Aj H0.wt),g0,.list (Aj (BK H0.n H0.r))]=u:=⟨_,rfl⟩
  obtain⟨v,hv⟩:∃u, [SObj.list (Aj ((List.range H1.n).map H1.r)),.list H1.ed,.list (Aj H1.wt),g1,.list (Aj (BK H1.n H1.r))]=u:=⟨_,rfl⟩
  rw[hu] at e0 e1; rw[hv] at e1
  have hS1:=Ae (t:=u) hS
  have hS2:=Ae (t:=v) hS1
  have k0:∀{τ:Hp},τ[lS]? =some (.list [.tup [.loc h0,.loc n0,.loc t0],.tup [.loc h1,.loc n1,.loc t1]])→Cj (some (lS,.list [.tup [.loc h0,.loc n0,.loc t0],.tup [.loc h1,.loc n1,.loc t1]])) τ=true:=decide_eq_true
  have vv:∀{a b c:Nat} {τ:Hp} {r},D4 [.loc a] τ=some r→Bj D4 [(Ap (Ab "side") (Ag (.int 0)))] (Rho.put [] "side" (.tup [.loc a,.loc b,.loc c])) τ=some r:=fun e=>Di (AA (Dl rfl rfl (by decide) rfl) rfl) e
  have comp:=Dz (tgt:= .name "side") (ts:= []) (b:=true) (k0 hS) rfl rfl (Fi (vv (b:=n0) (c:=t0) e0) (Dz (b:=true) (k0 hS1) rfl rfl (Fi (vv (b:=n1) (c:=t1) e1) (Gl (k0 hS2)))))
  have q0:∀{k o w},u[k]? =some o→(σ++u++v++w)[σ.length+k]? =some o:=fun e=>Ae (Ae (Dn.trans e))
  have q1:∀{k o w},v[k]? =some o→(σ++u++v++w)[(σ++u).length+k]? =some o:=fun e=>Ae (Dn.trans e)
  have as:∀{a b c:Hp},σ++(a++b++c)=σ++a++b++c:=fun {a b c}=>(List.append_assoc ..).symm.trans (congrArg (· ++ c) (List.append_assoc ..).symm)
  refine⟨u++v ++ [.list [.tup [.loc σ.length,.loc (σ.length+1),.loc (σ.length+2),.loc (σ.length+4)],.tup [.loc (σ++u).length,.loc ((σ++u).length+1),.loc ((σ++u).length+2),.loc ((σ++u).length+4)]]],(σ++u++v).length,σ.length+0,σ.length+1,σ.length+2,σ.length+4,(σ++u).length+0,(σ++u).length+1,(σ++u).length+2,(σ++u).length+4,?_⟩
  rw[as]
  exact⟨Cy (Cf (Ao q) (D7 hS)) comp (show 2<lim by decide),AE,q0 (hu▸rfl),q0 (hu▸rfl),q0 (hu▸rfl),q0 (hu▸rfl),q1 (hv▸rfl),q1 (hv▸rfl),q1 (hv▸rfl),q1 (hv▸rfl)⟩
end Mine.P
namespace Mine.P
open scoped Classical
open PySem
variable {σ σ':Hp}{h:Nat}{H:AH}{L:Lc}{td:Nat}{R:SV→SV→Prop}{S:SV→Prop}{X:Option Nat}{cs:List Int}{s s':Nat}
noncomputable def Fm (p:SV×SV):SV×SV:=(p.2,p.1)
theorem Xa {xs0 xs1:List SV}{lS h0 h1 n0 n1 t0 t1 v0 v1:Nat}{H0 H1:AH}(G0:GT xs0)(G1:GT xs1)(l0:xs0.length≤14)(l1:xs1.length≤14)(e0:H0.n=xs0.length)(e1:H1.n=xs1.length)(tm0:∀i,i<H0.n→xs0[i]? =some (H0.tm i))(tm1:∀i,i<H1.n→xs1[i]? =some (H1.tm i))
    (hS:σ[lS]? =some (.list [.tup [.loc h0,.loc n0,.loc t0],.tup [.loc h1,.loc n1,.loc t1]])) (k0:σ[n0]? =some (.dict (rng H0.n fun i=>(H0.tm i,.int (i:Int))) v0)) (k1:σ[n1]? =some (.dict (rng H1.n fun i=>(H1.tm i,.int (i:Int))) v1))
    {ρ:Rho} (q:ρ.lookup "sides" =some (.loc lS)):
    ∃t l,Yo ρ σ=some (.next,Rho.put ρ "some" (.loc l),σ++t)∧(σ++t)[l]? =some (.list (xs0++xs1.filter fun y=>!decide (y∈xs0))):=by
  have keys0:(rng H0.n fun i=>(H0.tm i,SV.int (i:Int))).map (·.1)=xs0:=by rw[GG]; exact GT.keys e0 tm0
  have keys1:(rng H1.n fun i=>(H1.tm i,SV.int (i:Int))).map (·.1)=xs1:=by rw[GG]; exact GT.keys e1 tm1
  generalize (rng H0.n fun i=>(H0.tm i,SV.int (i:Int)))=d0 at *
  generalize (rng H1.n fun i=>(H1.tm i,SV.int (i:Int)))=d1 at *
  have all0:d0.all (fun x=>x.1.isTupKey)=true:=by
    rw[List.all_eq_true]
    intro x hx
    have:x.1∈xs0:=by rw[←keys0]; exact List.mem_map_of_mem hx
    exact(G0.isT _ this).tupKey (by omega)
  have look:∀y,(d0.lookup y).isSome=decide (y∈xs0):=by
    intro y
    rw[←keys0]
    clear keys0 k0 all0
    induction d0 with
    | nil=>simp[OA]
    | cons p d ih=>
      obtain⟨a,b⟩:=p
      rw[Cg]
      by_cases w:y=a
      · rw[if_pos w]; simp[w]
      · rw[if_neg w,ih]; simp[w]
  have comp:=Hm (tgt:= .name "tree") (chk:=some (n1,.dict d1 v1)) (ts:= [(AJ (AM .notin (Ab "tree") (Ap (Ap (Ab "sides") (Ag (.int 0))) (Ag (.int 1)))))]) (elt:=Ab "tree") (ρ:= [("sides",.loc lS)]) (σ:=σ ++ [.list xs0]) (g:=id) (p:=fun y=>!decide (y∈xs0))
    (decide_eq_true (Ae k1)) xs1 (by
      intro x hx
      have hv:(d0.lookup x).isSome=decide (x∈xs0):=look x
      exact⟨_,rfl,Pl.trans (Bq rfl (Dl (BN rfl rfl (Ae hS) rfl) rfl (by decide) rfl) (hv▸Oz (Ae k0) (D8 ((G1.isT x hx).tupKey (by decide)) all0) rfl)),fun _=>rfl⟩)
  rw[List.map_id] at comp
  have fl:=Nat.le_trans (List.length_filter_le (fun y=>!decide (y∈xs0)) xs1) l1
  have hS1:=Ae (t:= [SObj.list xs0]) hS
  have k11:=Ae (t:= [SObj.list xs0]) k1
  exact⟨_,_,(Gn (NE (JM (Dl (BN (Ao q) rfl hS rfl) rfl (by decide) rfl) ((NF k0).trans (congrArg some keys0))) (Cy (Cf (Dl (BN (Ao q) rfl hS1 rfl) rfl (by decide) rfl) (Rd k11 keys1)) (by rw[BW q]; exact comp) (AL (Nat.le_trans fl (by decide))))
    (Ae AE) AE (AL (Nat.le_trans (Nat.add_le_add l0 fl) (by decide))))).trans (congrArg (fun s=>some (Flw.next,_,s)) ((congrArg (· ++ _) (List.append_assoc ..)).trans (List.append_assoc ..))),(congrArg (fun s:Hp=>s[_]?) ((List.append_assoc ..).symm.trans (congrArg (· ++ _) (List.append_assoc ..).symm))).trans AE⟩
theorem Xb {lS h0 h1 n0 n1 t0 t1:Nat}{T0 T1:List (SV×SV)}(hS:σ[lS]? =some (.list [.tup [.loc h0,.loc n0,.loc t0],.tup [.loc h1,.loc n1,.loc t1]]))(k0:σ[t0]? =some (.list (T0.map AX)))(k1:σ[t1]? =some (.list (T1.map AX)))(l0:T0.length≤2)(l1:T1.length≤2)
    {ρ:Rho} (q:ρ.lookup "sides" =some (.loc lS)):Yp ρ σ=some (.next,Rho.put ρ "told" (.loc σ.length),σ ++ [.list ((T0++T1).map AX)]):=by
  rw[List.map_append]
  exact Gn (NE (Dl (BN (Ao q) rfl hS rfl) rfl (by decide) rfl) (Dl (BN (Ao q) rfl hS rfl) rfl (by decide) rfl) k0 k1 (AL (by rw[List.length_map,List.length_map]; exact Nat.le_trans (Nat.add_le_add l0 l1) (by decide))))
theorem Xc {lt:Nat}{U:List (SV×SV)}(k:σ[lt]? =some (.list (U.map AX)))(l:U.length≤4){ρ:Rho}(q:ρ.lookup "told" =some (.loc lt)):
    ∃t l,Vi ρ σ=some (.loc l,σ++t)∧(σ++t)[l]? =some (.list ((U++U.map Fm).map AX)):=by
  have comp:=CJ (tgt:= .name "pair") (chk:=some (lt,.list (U.map AX))) (elt:=L7 (Ab "pair")) (ρ:= []) (σ:=σ) (g:=fun v=>match v with | .tup xs=> .tup xs.reverse | v=>v) (decide_eq_true k) (U.map AX) (by
    intro x hx
    obtain⟨p,hp,e⟩:=List.mem_map.mp hx
    exact⟨_,rfl,e▸XI rfl (show 2<lim by decide)⟩)
  have e:(U.map AX).map (fun v=>match v with | .tup xs=> .tup xs.reverse | v=>v)=(U.map Fm).map AX:=by
    rw[List.map_map,List.map_map]; rfl
  rw[e] at comp
  have le:(U.map AX).length≤4:=by rw[List.length_map]; exact l
  have le2:((U.map Fm).map AX).length≤4:=by rw[List.length_map,List.length_map]; exact l
  rw[List.map_append]
  exact⟨_,_,(NE (Ao q) (Cy (Cf (Ao q) (D7 k)) comp (AL (Nat.le_trans le2 (by decide)))) (Ae k) AE (AL (Nat.le_trans (Nat.add_le_add le le2) (by decide)))).trans (congrArg (fun s=>some (SV.loc _,s)) (List.append_assoc ..)),(congrArg (fun s:Hp=>s[_]?) (List.append_assoc ..).symm).trans AE⟩
theorem SideR.find {cs:List Int}{σ σ':Hp}{s s':Nat}{xs:List SV}{told:List (SV×SV)}{H:AH}{L:Lc}{ln lt:Nat}(D:SideR cs σ s σ' s' xs told H L ln lt){x:SV}(hx:x∈xs):∃i,i<H.n∧H.tm i=x:=
  (List.getElem?_of_mem hx).elim fun i hi=>have hn:=D.n.symm▸(List.getElem?_eq_some_iff.mp hi).1; ⟨i,hn,(Option.some.inj ((D.tm i hn).symm.trans hi))⟩
theorem Ib.flip {p:SV×SV}(h:Ib H p):Ib H (Fm p):=h.elim fun i h=>h.elim fun j w=>⟨j,i,w.2.1,w.1,w.2.2.2.1,w.2.2.1,w.2.2.2.2.symm⟩
theorem plain_law (ns:List Int):∃(ρ':Rho) (σ':Hp),Qc [("tape",.loc 1)] [.list ((ns.take 40).map .int),.list [.loc 0,.int 0]]=some (.ret (.bool true),ρ',σ'):=by
  have T0:Tape (ns.take 40) [.list ((ns.take 40).map .int),.list [.loc 0,.int 0]] 0:=⟨rfl,rfl⟩
  obtain⟨xs0,U0,H0,L0,ln0,lt0,σ1,s1,e1,D0⟩:=Rw T0 (Nat.zero_le _)
  obtain⟨xs1,U1,H1,L1,ln1,lt1,σ2,s2,e2,D1⟩:=Rw D0.tape (Nat.le_trans D0.hi (by decide))
  obtain⟨v0,nu0⟩:=D0.nums
  obtain⟨v1,nu1⟩:=D1.nums
  have n1:∀{l},2≤l→l≠1:=fun h q=>Nat.not_lt_of_le h (q▸Nat.lt_succ_self 1)
  have up:∀{l o},σ1[l]? =some o→2≤l→σ2[l]? =some o:=fun e q=>(D1.keep _ (AN e) (n1 q)).trans e
  have A0:HeapAt σ2 2 H0 L0:=D0.heap.frame fun l o hl=>D1.keep l hl (n1 (D0.heap.low o))
  have hS:=AE (σ:=σ2) (o:=SObj.list [.tup [.loc 2,.loc ln0,.loc lt0],.tup [.loc σ1.length,.loc ln1,.loc lt1]])
  obtain⟨t4,ls,b2,hs⟩:=Xa D0.gt D1.gt D0.xl D1.xl D0.n D1.n D0.tm D1.tm hS (Ae (up nu0 D0.lnlo)) (Ae nu1) (ρ:=Rho.put [("tape",.loc 1)] "sides" (.loc σ2.length)) rfl
  have K:=W9 D0.gt D1.gt D0.xl D1.xl
  have mem0:∀x,x∈xs0→x∈xs0++xs1.filter (fun y=>!decide (y∈xs0)):=fun x hx=>List.mem_append_left _ hx
  have mem1:∀x,x∈xs1→x∈xs0++xs1.filter (fun y=>!decide (y∈xs0)):=fun x hx=>by
    by_cases q:x∈xs0
    · exact List.mem_append_left _ q
    · exact List.mem_append_right _ (List.mem_filter.mpr ⟨hx,by rw[decide_eq_false q]; rfl⟩)
  have memB:∀x,x∈xs0++xs1.filter (fun y=>!decide (y∈xs0))→x∈xs0∨x∈xs1:=fun x hx=>(List.mem_append.mp hx).imp_right fun w=>(List.mem_filter.mp w).1
  have b3:=Xb (Ae (t:=t4) hS) (Ae (t:=t4) (Ae (up D0.tolds D0.ltlo))) (Ae (t:=t4) (Ae D1.tolds)) D0.toldLen D1.toldLen (ρ:=Rho.put (Rho.put [("tape",.loc 1)] "sides" (.loc σ2.length)) "some" (.loc ls)) rfl
  have hs4:=Ae (t:= [.list ((U0++U1).map AX)]) hs
  generalize xs0++xs1.filter (fun y=>!decide (y∈xs0))=xs at hs4 K mem0 mem1 memB
  obtain⟨t5,lT,b4,hT5⟩:=Xc AE (U:=U0++U1) (by rw[List.length_append]; exact Nat.add_le_add D0.toldLen D1.toldLen) (ρ:=Rho.put (Rho.put (Rho.put [("tape",.loc 1)] "sides" (.loc σ2.length)) "some" (.loc ls)) "told" _) rfl
  have in0:∀i,i<H0.n→H0.tm i∈xs:=fun i hi=>mem0 _ (List.mem_of_getElem? (D0.tm i hi))
  have in1:∀i,i<H1.n→H1.tm i∈xs:=fun i hi=>mem1 _ (List.mem_of_getElem? (D1.tm i hi))
  have toldU:∀p,p∈U0++U1→Ib H0 p∨Ib H1 p:=fun p hp=>(List.mem_append.mp hp).imp (D0.toldIn p) (D1.toldIn p)
  have toldT:∀p,p∈(U0++U1)++(U0++U1).map Fm→Ib H0 p∨Ib H1 p:=fun p hp=>(List.mem_append.mp hp).elim (toldU p) fun w=>(List.mem_map.mp w).elim fun p' w=>w.2▸(toldU p' w.1).imp Ib.flip Ib.flip
  have hTx:∀p,p∈(U0++U1)++(U0++U1).map Fm→p.1∈xs∧p.2∈xs:=fun p hp=>
    (toldT p hp).elim (fun w=>w.elim fun i w=>w.elim fun j w=>⟨w.2.2.1▸in0 i w.1,w.2.2.2.1▸in0 j w.2.1⟩) fun w=>w.elim fun i w=>w.elim fun j w=>⟨w.2.2.1▸in1 i w.1,w.2.2.2.1▸in1 j w.2.1⟩
  have sub0:∀p,p∈U0→p∈(U0++U1)++(U0++U1).map Fm:=fun p hp=>List.mem_append_left _ (List.mem_append_left _ hp)
  have sub1:∀p,p∈U1→p∈(U0++U1)++(U0++U1).map Fm:=fun p hp=>List.mem_append_left _ (List.mem_append_right _ hp)
  obtain⟨t6,lh,ver,lab,b5,hh,sd,cl⟩:=T8 K (Jl (xs:=xs) (T:=(U0++U1)++(U0++U1).map Fm)) hTx (fun p hp=>SN hp) (Ae (t:=t5) hs4) hT5
  have g4:=fun {l o} (e:σ2[l]? =some o)=>Ae (t:=t6) (Ae (t:=t5) (Ae (t:= [SObj.list ((U0++U1).map AX)]) (Ae (t:=t4) (Ae (t:= [SObj.list [.tup [.loc 2,.loc ln0,.loc lt0],.tup [.loc σ1.length,.loc ln1,.loc lt1]]]) e))))
  have hS6:=Ae (t:=t6) (Ae (t:=t5) (Ae (t:= [SObj.list ((U0++U1).map AX)]) (Ae (t:=t4) hS)))
  have A06:=((((A0.app [SObj.list [.tup [.loc 2,.loc ln0,.loc lt0],.tup [.loc σ1.length,.loc ln1,.loc lt1]]]).app t4).app [SObj.list ((U0++U1).map AX)]).app t5).app t6
  have A16:=((((D1.heap.app [SObj.list [.tup [.loc 2,.loc ln0,.loc lt0],.tup [.loc σ1.length,.loc ln1,.loc lt1]]]).app t4).app [SObj.list ((U0++U1).map AX)]).app t5).app t6
  obtain⟨t7,lw,a0,a1,a2,a3,c0,c1,c2,c3,b6,hw,x1,x2,x3,x4,y1,y2,y3,y4⟩:=Pw A06 D0.wf A16 D1.wf hS6 (ρ:=Rho.put (Rho.put (Rho.put [("tape",.loc 1)] "sides" (.loc σ2.length)) "some" (.loc ls)) "told" _) rfl
  have b7:Yq _ _=some (Flw.next,_,_):=Go (EV (AA (Di (AA (Ao (x:= "some") rfl) (AA b4 rfl)) b5) (AA b6 rfl))) rfl
  have hh7:=Ae (t:=t7) hh
  have C0:SideC _ xs ((U0++U1)++(U0++U1).map Fm) 2 ln0 H0 L0 2 (LC xs0 U0) (fun v=>v∈xs0):=
    ⟨A06.app t7,D0.wf,⟨v0,Ae (g4 (up nu0 D0.lnlo))⟩,in0,fun i j hi hj e=>SS mem0 sub0 (D0.wf.snd i j hi hj e)⟩
  have C1:SideC _ xs ((U0++U1)++(U0++U1).map Fm) σ1.length ln1 H1 L1 2 (LC xs1 U1) (fun v=>v∈xs1):=
    ⟨A16.app t7,D1.wf,⟨v1,Ae (g4 nu1)⟩,in1,fun i j hi hj e=>SS mem1 sub1 (D1.wf.snd i j hi hj e)⟩
  have hS7:=Ae (t:=t7) hS6
  have hn:H0.n+H1.n≤40:=D0.n▸D1.n▸Nat.le_trans (Nat.add_le_add D0.xl D1.xl) (by decide)
  have cov:∀x,x∈xs→(∃i,i<H0.n∧H0.tm i=x)∨∃i,i<H1.n∧H1.tm i=x:=fun x hx=>(memB x hx).imp D0.find D1.find
  obtain⟨σ8,b8,len8,k8⟩:=KZ K sd cl hTx C0 C1 hn cov toldT hS7 hh7
  have up8:=fun {l o} e=>(k8 l (AN e)).trans (e:_=some (o:SObj))
  have fr:=fun l hl=>(List.getElem?_append_left (l₂:= [SObj.list [.tup [.loc σ1.length,.loc ln1,.loc lt1],.tup [.loc 2,.loc ln0,.loc lt0]]]) (Nat.lt_of_lt_of_le hl len8)).trans (k8 l hl)
  have C0':SideC (σ8 ++ [SObj.list [.tup [.loc σ1.length,.loc ln1,.loc lt1],.tup [.loc 2,.loc ln0,.loc lt0]]]) xs ((U0++U1)++(U0++U1).map Fm) 2 ln0 H0 L0 2 (LC xs0 U0) (fun v=>v∈xs0):=
    ⟨C0.heap.frame fun l o hl=>fr l hl,D0.wf,C0.nums.imp fun v e=>Ae (up8 e),in0,C0.sound⟩
  have C1':SideC (σ8 ++ [SObj.list [.tup [.loc σ1.length,.loc ln1,.loc lt1],.tup [.loc 2,.loc ln0,.loc lt0]]]) xs ((U0++U1)++(U0++U1).map Fm) σ1.length ln1 H1 L1 2 (LC xs1 U1) (fun v=>v∈xs1):=
    ⟨C1.heap.frame fun l o hl=>fr l hl,D1.wf,C1.nums.imp fun v e=>Ae (up8 e),in1,C1.sound⟩
  obtain⟨σA,bA,lenA,kA⟩:=KZ K sd cl hTx C1' C0' (Nat.add_comm .. ▸hn) (fun x hx=>(cov x hx).symm) (fun p hp=>(toldT p hp).symm) AE (Ae (up8 hh7))
  have upA:=fun {l o} e=>(kA l (AN (Ae (up8 (o:=o) e)))).trans (Ae (up8 e))
  have A0A:HeapAt σA 2 H0 L0:=C0'.heap.frame fun l o hl=>kA l hl
  have A1A:HeapAt σA σ1.length H1 L1:=C1'.heap.frame fun l o hl=>kA l hl
  obtain⟨tB,lB,a0',a1',a2',a3',c0',c1',c2',c3',bC,hw',x1',x2',x3',x4',y1',y2',y3',y4'⟩:=Pw A0A D0.wf A1A D1.wf (upA hS7) (ρ:=Rho.put (Rho.put (Rho.put (Rho.put (Rho.put [("tape",.loc 1)] "sides" (.loc σ2.length)) "some" (.loc ls)) "told" _) "home" (.loc lh)) "was" (.loc lw)) rfl
  obtain⟨d,hd⟩:=Vh D0.wf D1.wf
  have p1:=hd _ _ _ _ _ _ _ _ _ _ hw' x1' x2' x3' x4' y1' y2' y3' y4'
  have p2:=hd _ _ _ _ _ _ _ _ _ _ (Ae (t:=tB) (upA hw)) (Ae (upA x1)) (Ae (upA x2)) (Ae (upA x3)) (Ae (upA x4)) (Ae (upA y1)) (Ae (upA y2)) (Ae (upA y3)) (Ae (upA y4))
  have eq:EW (σA++tB) (.loc lB) (.loc lw)=some true:=by
    unfold EW
    rw[p1,p2]
    exact congrArg some (Vf _ _ _ p1)
  exact⟨_,_,Bf (Gn (Ji (AA (Di rfl e1) (AA (Di rfl e2) rfl)))) (Bf b2 (Bf b3 (Bf b7 (Bf (DY (Li (Lh (Gm (Di rfl b8))) (Lh (Gm (Di (AA (XH rfl (up8 hS7)) rfl) bA)))) rfl) (BC (Lg bC rfl eq))))))⟩
end Mine.P
theorem PySem.Challenge.cw_pq0004_01_holds : PySem.Challenge.rw_pq0004_01.Holds := by
  exact Mine.law_holds Mine.P.plain_law
