import PyProof.Rows.All
import Wide.All
import OpenK.AllK
import Wide.FinOn
import KE.BytesMake
import KE.KSortTup
import KE.BitLaws
import Lean
import PySem.Challenge.RW_pb0429_01
set_option genSizeOf false
set_option genSizeOfSpec false
set_option genInjectivity false
set_option bootstrap.genMatcherCode false
set_option backward.eqns.nonrecursive false
set_option backward.match.sparseCases false
set_option Elab.async false
set_option maxRecDepth 100000
set_option maxHeartbeats 8000000
set_option linter.all false
noncomputable section
namespace Mine
abbrev ay:=@List.mem_append_right
abbrev az:=@Classical.choose
abbrev bA:=@Nat.le_of_ble_eq_true
abbrev bB:=@List.append_assoc
abbrev bC:=@List.getD_eq_getElem?_getD
abbrev bD:=@List.mem_of_getElem?
abbrev bF:=@List.length_map
abbrev bG:=@Bool.and_eq_true
abbrev bH:=@List.map_append
abbrev bI:=@List.length_append
abbrev bJ:=@List.Perm.append_left
abbrev bK:=@List.mem_append_left
abbrev bL:=@List.map_cons
abbrev bM:=@List.perm_append_comm
abbrev bN:=@List.mem_append
abbrev bO:=@List.all_eq_true
abbrev bP:=@List.getElem?_eq_none
abbrev bQ:=@List.append_nil
abbrev bR:=@List.getElem?_eq_getElem
abbrev bS:=@Option.some.inj
abbrev bT:=@List.size_toArray
abbrev bU:=@List.getElem?_append_left
abbrev bV:=@List.getElem?_append_right
abbrev bW:=@Bool.false_eq_true
abbrev bX:=@List.mem_cons
abbrev bY:=@List.mem_map
abbrev bZ:=@List.nodup_append
abbrev ba:=@List.flatMap_cons
abbrev bc:=@List.getElem?_set
abbrev be:=@Nat.lt_or_ge
abbrev bf:=@List.map_nil
abbrev bg:=@Nat.eq_of_beq_eq_true
abbrev bh:=@List.all_cons
abbrev bi:=@List.flatMap_append
abbrev bj:=@List.take_length
abbrev bk:=@List.cons_append
abbrev bl:=@Nat.le_trans
abbrev bn:=@List.any_cons
abbrev bo:=@List.mem_singleton
abbrev bp:=@List.getElem?_map
abbrev bq:=@List.length_set
abbrev bt:=@List.perm_middle
abbrev bu:=@List.take_append_of_le_length
abbrev bv:=@List.eq_nil_of_length_eq_zero
abbrev bw:=@List.getElem_map
end Mine
variable {A aZ:PySem.Around}{outer:List PySem.Env}{base aY:PySem.Heap}{p prog:PySem.Program}{loose:List PySem.Str}{aC:PySem.ExcName->Option PySem.Value}{mg mb mm:PySem.Str->Option PySem.Value}{G:PySem.Addr->PySem.Obj}{E:PySem.Value->PySem.Shared->Prop}{ρ:List PySem.Addr}{s:PySem.Shared}{xs aA X:List (PySem.Addr×PySem.Obj)}{w:PySem.World}{us:List PySem.Value}{Q:PySem.Flow->PySem.Shared->Prop}{k:Nat}{u v:PySem.Value}
section
open PySem PySem.W PyProof.Rows
namespace Mine
section
noncomputable abbrev kh:=@PyData.keyHash
noncomputable def vB:Nat->List Obj->List (Nat×Obj)->List Obj
 |_,[],_=>[]
 |i,x::l,[]=>x::l
 |i,x::l,(j,o)::c=>match Nat.beq i j with
  |true=>o::vB (i+1) l c
  |false=>x::vB (i+1) l ((j,o)::c)
noncomputable def tN:List Obj->List Obj×List Obj
 |[]=>([],[])
 |x::l=>(x::(tN l).2,(tN l).1)
noncomputable def j6:Nat->List Obj->BT
 |0,_=>.nil
 |_+1,[]=>.nil
 |n+1,v::l=>.node v (j6 n (tN l).1) (j6 n (tN l).2)
@[reducible] noncomputable def cL {α:Type} {x:List α} {h:α} {t:List α} (_:x=h::t):List α:=h::t
@[reducible] noncomputable def cK {x:Arguments} {a b c d e f g} (_:x=⟨a,b,c,d,e,f,g⟩):Arguments:=⟨a,b,c,d,e,f,g⟩
@[reducible] noncomputable def cT {x:Scope} {a b c d e} (_:x=⟨a,b,c,d,e⟩):Scope:=⟨a,b,c,d,e⟩
noncomputable def TV (i:Nat):Stmt:=(PySem.Challenge.pw_pb0429_01.main.body[i]?).getD (.Pass ⟨0,0,0,0⟩)
noncomputable def XS:Stmt->List Stmt
 | .ClassDef _ _ _ b ..=>b
 |_=>[]
def fAt (i:Nat):Nat->Stmt
 |0=>TV i
 |j+1=>((XS (TV i))[j]?).getD (.Pass ⟨0,0,0,0⟩)
def pA (i j:Nat):Arguments:=match fAt i j with
 | .FunctionDef _ a ..=>a
 |_=>default
def pB (i j:Nat):List Stmt:=match fAt i j with
 | .FunctionDef _ _ b ..=>b
 |_=>[]
def pS (i j:Nat):Scope:=match fAt i j with
 | .FunctionDef _ _ _ _ _ _ s ..=>s
 |_=>default
noncomputable abbrev vI (n:Int):Value:=.int n 0
noncomputable abbrev vR (n:Nat):Value:=.ref n
abbrev oE (P:Params) (s:Str) (t:Nat) (v:Value):DictEntry:=.mk (kh P s) (.str s t) v
noncomputable abbrev oD (a:Array DictEntry) (n:Nat):Obj:=.mk (.type "dict") none (.dict a n) #[]
noncomputable abbrev oT (a:Array Value):Obj:=.mk (.type "tuple") none (.seq a 0) #[]
noncomputable abbrev oB (a:Array Value):Obj:=.mk (.type "builtin_function_or_method") none (.fields a) #[]
noncomputable abbrev oN (a:Array Value):Obj:=.mk .none none (.fields a) #[]
noncomputable abbrev oR (a b c:Nat) (s:Str) (t:Nat):Obj:=.mk (.type "frame") none .plain #[some (.ref a),some (.ref b),some (.ref c),none,some (.str s t),none,some (.ref 0)]
abbrev oF (s q:Str) (i j k l:Nat) (d:Value) (m:Str) (t c:Nat):Obj:=.mk (.type "function") none (.func (.mk s q (pA i j) (.stmts (pB i j)) (pS k l) 3 [] d .none .none (.str m t) none (.ref c) .none 0)) #[]
abbrev oG (s q:Str) (i j k l:Nat):Obj:=.mk .none none (.func (.mk s q (pA i j) (.stmts (pB i j)) (pS k l) 0 [] .none .none .none .none none .none .none 0)) #[]
abbrev oC (s:Str) (a:Nat) (q:Str) (b c:Nat) (l n f:Int) (r:Value) (o:Bool) (i:Int) (u x y z:Value) (k:Int) (d:Nat):Obj:=.mk (.type "code") none (.fields #[.str s a,.str q b,.str "/claim/cut.py" c,vI l,vI n,vI 0,vI 0,vI f,r,.bool o,vI i,u,.none,x,y,z,vI k,vI l,.str "/claim/cut.py" d]) #[]
abbrev oK (s:Str) (a:Nat) (q:Str) (l n f:Int) (r:Nat) (k:Int) (d:Nat):Obj:=oC s a q (a+1) (a+2) l n f (vR r) true 181 (vR (r+1)) (vR (r+2)) (vR (r+3)) (vR (r+4)) k d
noncomputable abbrev w0:Value:=.str "octetmint.sections" 926
abbrev hZ (s q:Str) (i j k l:Nat) (d:Value) (c:Nat):Obj:=oF s q i j k l d "octetmint.sections" 926 c
abbrev MQ (a b c:Nat):Obj:=oR a b c "octetmint.sections" 926
noncomputable abbrev w1:Value:=.str "octetmint.expressions" 412
abbrev lM (s q:Str) (i j k l:Nat) (d:Value) (c:Nat):Obj:=oF s q i j k l d "octetmint.expressions" 412 c
abbrev RT (a b c:Nat):Obj:=oR a b c "octetmint.expressions" 412
noncomputable abbrev w2:Value:=.str "octetmint.basics" 194
abbrev MP (s q:Str) (i j k l:Nat) (d:Value) (c:Nat):Obj:=oF s q i j k l d "octetmint.basics" 194 c
abbrev ZE (a b c:Nat):Obj:=oR a b c "octetmint.basics" 194
noncomputable abbrev w3:Value:=.str "octetmint.source" 811
abbrev RS (s q:Str) (i j k l:Nat) (d:Value) (c:Nat):Obj:=oF s q i j k l d "octetmint.source" 811 c
abbrev oR3 (a b c:Nat):Obj:=oR a b c "octetmint.source" 811
def nM (P:Params):List Obj:=[
 oD #[oE P "__name__" 1 (.str "builtins" 160),oE P "__doc__" 2 (.builtin "builtins.__doc__:str#opaque"),oE P "__package__" 3 (.builtin "builtins.__package__:str#opaque"),oE P "__loader__" 4 (.builtin "builtins.__loader__:shared#opaque"),oE P "__spec__" 5 (.builtin "builtins.__spec__#opaque"),oE P "__build_class__" 6 (.builtin "__build_class__"),oE P "__import__" 7 (.builtin "__import__"),oE P "abs" 8 (.builtin "abs"),oE P "all" 9 (.builtin "all"),oE P "any" 10 (.builtin "any"),oE P "ascii" 11 (.builtin "ascii"),oE P "bin" 12 (.builtin "bin"),oE P "breakpoint" 13 (.builtin "breakpoint"),oE P "callable" 14 (.builtin "callable"),oE P "chr" 15 (.builtin "chr"),oE P "compile" 16 (.builtin "compile"),oE P "delattr" 17 (.builtin "delattr"),oE P "dir" 18 (.builtin "dir"),oE P "divmod" 19 (.builtin "divmod"),oE P "eval" 20 (.builtin "eval"),oE P "exec" 21 (.builtin "exec"),oE P "format" 22 (.builtin "format"),oE P "getattr" 23 (.builtin "getattr"),oE P "globals" 24 (.builtin "globals"),oE P "hasattr" 25 (.builtin "hasattr"),oE P "hash" 26 (.builtin "hash"),oE P "hex" 27 (.builtin "hex"),oE P "id" 28 (.builtin "id"),oE P "input" 29 (.builtin "input"),oE P "isinstance" 30 (.builtin "isinstance"),oE P "issubclass" 31 (.builtin "issubclass"),oE P "iter" 32 (.builtin "iter"),oE P "aiter" 33 (.builtin "aiter"),oE P "len" 34 (.builtin "len"),oE P "locals" 35 (.builtin "locals"),oE P "max" 36 (.builtin "max"),oE P "min" 37 (.builtin "min"),oE P "next" 38 (.builtin "next"),oE P "anext" 39 (.builtin "anext"),oE P "oct" 40 (.builtin "oct"),oE P "ord" 41 (.builtin "ord"),oE P "pow" 42 (.builtin "pow"),oE P "print" 43 (.builtin "print"),oE P "repr" 44 (.builtin "repr"),oE P "round" 45 (.builtin "round"),oE P "setattr" 46 (.builtin "setattr"),oE P "sorted" 47 (.builtin "sorted"),oE P "sum" 48 (.builtin "sum"),oE P "vars" 49 (.builtin "vars"),oE P "None" 50 .none,oE P "Ellipsis" 51 .ellipsis,oE P "NotImplemented" 52 .notImplemented,oE P "False" 53 (.bool false),oE P "True" 54 (.bool true),oE P "bool" 55 (.type "bool"),oE P "memoryview" 56 (.type "memoryview"),oE P "bytearray" 57 (.type "bytearray"),oE P "bytes" 58 (.type "bytes"),oE P "classmethod" 59 (.type "classmethod"),oE P "complex" 60 (.type "complex"),oE P "dict" 61 (.type "dict"),oE P "enumerate" 62 (.type "enumerate"),oE P "filter" 63 (.type "filter"),oE P "float" 64 (.type "float"),oE P "frozenset" 65 (.type "frozenset"),oE P "property" 66 (.type "property"),oE P "int" 67 (.type "int"),oE P "list" 68 (.type "list"),oE P "map" 69 (.type "map"),oE P "object" 70 (.type "object"),oE P "range" 71 (.type "range"),oE P "reversed" 72 (.type "reversed"),oE P "set" 73 (.type "set"),oE P "slice" 74 (.type "slice"),oE P "staticmethod" 75 (.type "staticmethod"),oE P "str" 76 (.type "str"),oE P "super" 77 (.type "super"),oE P "tuple" 78 (.type "tuple"),oE P "type" 79 (.type "type"),oE P "zip" 80 (.type "zip"),oE P "__debug__" 81 (.bool true),oE P "BaseException" 82 (.type "BaseException"),oE P "BaseExceptionGroup" 83 (.type "BaseExceptionGroup"),oE P "Exception" 84 (.type "Exception"),oE P "GeneratorExit" 85 (.type "GeneratorExit"),oE P "KeyboardInterrupt" 86 (.type "KeyboardInterrupt"),oE P "SystemExit" 87 (.type "SystemExit"),oE P "ArithmeticError" 88 (.type "ArithmeticError"),oE P "AssertionError" 89 (.type "AssertionError"),oE P "AttributeError" 90 (.type "AttributeError"),oE P "BufferError" 91 (.type "BufferError"),oE P "EOFError" 92 (.type "EOFError"),oE P "ImportError" 93 (.type "ImportError"),oE P "LookupError" 94 (.type "LookupError"),oE P "MemoryError" 95 (.type "MemoryError"),oE P "NameError" 96 (.type "NameError"),oE P "OSError" 97 (.type "OSError"),oE P "ReferenceError" 98 (.type "ReferenceError"),oE P "RuntimeError" 99 (.type "RuntimeError"),oE P "StopAsyncIteration" 100 (.type "StopAsyncIteration"),oE P "StopIteration" 101 (.type "StopIteration"),oE P "SyntaxError" 102 (.type "SyntaxError"),oE P "SystemError" 103 (.type "SystemError"),oE P "TypeError" 104 (.type "TypeError"),oE P "ValueError" 105 (.type "ValueError"),oE P "Warning" 106 (.type "Warning"),oE P "FloatingPointError" 107 (.type "FloatingPointError"),oE P "OverflowError" 108 (.type "OverflowError"),oE P "ZeroDivisionError" 109 (.type "ZeroDivisionError"),oE P "BytesWarning" 110 (.type "BytesWarning"),oE P "DeprecationWarning" 111 (.type "DeprecationWarning"),oE P "EncodingWarning" 112 (.type "EncodingWarning"),oE P "FutureWarning" 113 (.type "FutureWarning"),oE P "ImportWarning" 114 (.type "ImportWarning"),oE P "PendingDeprecationWarning" 115 (.type "PendingDeprecationWarning"),oE P "ResourceWarning" 116 (.type "ResourceWarning"),oE P "RuntimeWarning" 117 (.type "RuntimeWarning"),oE P "SyntaxWarning" 118 (.type "SyntaxWarning"),oE P "UnicodeWarning" 119 (.type "UnicodeWarning"),oE P "UserWarning" 120 (.type "UserWarning"),oE P "BlockingIOError" 121 (.type "BlockingIOError"),oE P "ChildProcessError" 122 (.type "ChildProcessError"),oE P "ConnectionError" 123 (.type "ConnectionError"),oE P "FileExistsError" 124 (.type "FileExistsError"),oE P "FileNotFoundError" 125 (.type "FileNotFoundError"),oE P "InterruptedError" 126 (.type "InterruptedError"),oE P "IsADirectoryError" 127 (.type "IsADirectoryError"),oE P "NotADirectoryError" 128 (.type "NotADirectoryError"),oE P "PermissionError" 129 (.type "PermissionError"),oE P "ProcessLookupError" 130 (.type "ProcessLookupError"),oE P "TimeoutError" 131 (.type "TimeoutError"),oE P "IndentationError" 132 (.type "IndentationError"),oE P "_IncompleteInputError" 133 (.type "_IncompleteInputError"),oE P "IndexError" 134 (.type "IndexError"),oE P "KeyError" 135 (.type "KeyError"),oE P "ModuleNotFoundError" 136 (.type "ModuleNotFoundError"),oE P "NotImplementedError" 137 (.type "NotImplementedError"),oE P "PythonFinalizationError" 138 (.type "PythonFinalizationError"),oE P "RecursionError" 139 (.type "RecursionError"),oE P "UnboundLocalError" 140 (.type "UnboundLocalError"),oE P "UnicodeError" 141 (.type "UnicodeError"),oE P "BrokenPipeError" 142 (.type "BrokenPipeError"),oE P "ConnectionAbortedError" 143 (.type "ConnectionAbortedError"),oE P "ConnectionRefusedError" 144 (.type "ConnectionRefusedError"),oE P "ConnectionResetError" 145 (.type "ConnectionResetError"),oE P "TabError" 146 (.type "TabError"),oE P "UnicodeDecodeError" 147 (.type "UnicodeDecodeError"),oE P "UnicodeEncodeError" 148 (.type "UnicodeEncodeError"),oE P "UnicodeTranslateError" 149 (.type "UnicodeTranslateError"),oE P "ExceptionGroup" 150 (.type "ExceptionGroup"),oE P "EnvironmentError" 151 (.type "OSError"),oE P "IOError" 152 (.type "OSError"),oE P "open" 153 (.builtin "open"),oE P "quit" 154 (.builtin "builtins.quit#opaque"),oE P "exit" 155 (.builtin "builtins.exit#opaque"),oE P "copyright" 156 (.builtin "builtins.copyright#opaque"),oE P "credits" 157 (.builtin "builtins.credits#opaque"),oE P "license" 158 (.builtin "builtins.license#opaque"),oE P "help" 159 (.builtin "builtins.help#opaque")] 159,
 oD #[oE P "builtins" 162 (vR 4),oE P "__main__" 163 (vR 5)] 2,
 .mk .none none (.dict #[oE P "type.__subclasses__.Exception.0" 232 (vI 46),oE P "type.__subclasses__.Exception.n" 233 (vI 1)] 2) #[],
 oD #[oE P "__name__" 165 (.str "law_pb0429_01" 1512),oE P "__doc__" 166 .none,oE P "__package__" 167 .none,oE P "__loader__" 168 (.builtin "__main__.__loader__#opaque"),oE P "__spec__" 169 .none,oE P "__annotations__" 170 (vR 6),oE P "__builtins__" 171 (vR 4),oE P "__file__" 173 (.str "/claim/cut.py" 172),oE P "__cached__" 174 .none,oE P "_wall" 193 (vR 21),oE P "MOST_LEB" 197 (.int 10 196),oE P "MintError" 235 (vR 46),oE P "ReadError" 251 (vR 59),oE P "EncodeError" 267 (vR 71),oE P "SymbolError" 283 (vR 83),oE P "LayoutError" 299 (vR 95),oE P "mask" 306 (vR 104),oE P "wrap" 314 (vR 111),oE P "fits_either" 322 (vR 118),oE P "little" 333 (vR 125),oE P "leb_octets" 339 (vR 130),oE P "uleb" 348 (vR 137),oE P "sleb" 357 (vR 144),oE P "Fixup" 411 (vR 175),oE P "MOST_SHIFT" 415 (.int 63 414),oE P "Expr" 451 (vR 203),oE P "Number" 484 (vR 231),oE P "Symbol" 517 (vR 257),oE P "Unary" 552 (vR 283),oE P "Binary" 593 (vR 309),oE P "left_spine" 602 (vR 318),oE P "Affine" 681 (vR 378),oE P "affine_of" 687 (vR 387),oE P "Scope" 743 (vR 426),oE P "quotient" 751 (vR 437),oE P "shifted" 760 (vR 444),oE P "reckoned" 769 (vR 451),oE P "combined" 778 (vR 458),oE P "turned" 786 (vR 465),oE P "evaluate" 800 (vR 473),oE P "names_in" 810 (vR 480),oE P "Statement" 843 (vR 497),oE P "Deed" 877 (vR 523),oE P "Equate" 912 (vR 549),oE P "told_argument" 919 (vR 558),oE P "solve_equates" 925 (vR 563),oE P "MOST_OCTETS" 931 (.int 1048576 930),oE P "MOST_STEP" 935 (.int 32768 934),oE P "Piece" 973 (vR 587),oE P "Octets" 1014 (vR 621),oE P "Align" 1049 (vR 648),oE P "Org" 1082 (vR 675),oE P "Space" 1124 (vR 709),oE P "Leb" 1159 (vR 736),oE P "Section" 1237 (vR 795),oE P "Program" 1322 (vR 856),oE P "data_width" 1329 (vR 867),oE P "Collector" 1511 (vR 987),oE P "_law_next" 1521 (vR 998),oE P "_law_number" 1531 (vR 1005),oE P "_law_part" 1543 (vR 1012),oE P "_law_octets" 1549 (vR 1017),oE P "_law_due" 1566 (vR 1024),oE P "_law_word" 1576 (vR 1031),oE P "law" 1582 (vR 1036)] 65,
 .mk (.type "module") (some 0) .plain #[],
 .mk (.type "module") (some 3) .plain #[],
 oD #[] 0,
 oT #[],
 oN #[],
 oC "<module>" 176 "<module>" 177 178 1 0 0 (vR 7) false 175 (vR 8) .none .none .none 179 180,
 oR 9 3 3 "__main__" 164,
 oT #[],
 oN #[vI 1,vI 0,vR 20,vI 6,vI 0,vR 27,vI 17,vI 0,vR 55,vI 19,vI 0,vR 67,vI 21,vI 0,vR 79,vI 23,vI 0,vR 91,vI 25,vI 0,vR 103,vI 27,vI 0,vR 110,vI 29,vI 0,vR 117,vI 31,vI 0,vR 124,vI 38,vI 0,vR 129,vI 44,vI 0,vR 136,vI 53,vI 0,vR 143,vI 61,vI 0,vR 150,vI 77,vI 0,vR 185,vI 84,vI 0,vR 213,vI 92,vI 0,vR 239,vI 100,vI 0,vR 265,vI 109,vI 0,vR 291,vI 123,vI 0,vR 317,vI 131,vI 0,vR 324,vI 155,vI 0,vR 386,vI 166,vI 0,vR 393,vI 189,vI 0,vR 436,vI 195,vI 0,vR 443,vI 201,vI 0,vR 450,vI 215,vI 0,vR 457,vI 223,vI 0,vR 464,vI 231,vI 0,vR 472,vI 246,vI 0,vR 479,vI 260,vI 0,vR 486,vI 265,vI 0,vR 507,vI 274,vI 0,vR 531,vI 283,vI 0,vR 557,vI 287,vI 0,vR 562,vI 307,vI 0,vR 569,vI 315,vI 0,vR 597,vI 327,vI 0,vR 629,vI 336,vI 0,vR 656,vI 344,vI 0,vR 683,vI 356,vI 0,vR 717,vI 365,vI 0,vR 744,vI 394,vI 0,vR 805,vI 436,vI 0,vR 866,vI 444,vI 0,vR 873,vI 582,vI 0,vR 997,vI 584,vI 0,vR 1004,vI 588,vI 0,vR 1011,vI 603,vI 0,vR 1016,vI 606,vI 0,vR 1023,vI 624,vI 0,vR 1030,vI 635,vI 0,vR 1035],
 oC "<module>" 182 "<module>" 183 184 1 0 0 (vR 11) false 181 (vR 12) .none .none .none 185 186,
 oR 13 3 3 "__main__" 164,
 oT #[],
 oN #[],
 oT #[.str "k" 190],
 oT #[],
 oG "_wall" "_wall" 0 0 0 0,
 oK "_wall" 187 "_wall" 1 1 3 15 191 192,
 oF "_wall" "_wall" 0 0 0 0 .none "__main__" 164 20,
 oT #[.type "Exception"],
 oB #[.builtin "type.__prepare__",.type "type"],
 oD #[oE P "__module__" 205 w2,oE P "__qualname__" 207 (.str "MintError" 206),oE P "__firstlineno__" 209 (.int 6 208),oE P "__init__" 218 (vR 36),oE P "told" 225 (vR 43),oE P "__static_attributes__" 228 (vR 44)] 6,
 oT #[],
 oN #[vI 8,vI 4,vR 35,vI 13,vI 4,vR 42],
 oC "MintError" 200 "MintError" 201 202 6 0 0 (vR 25) false 181 (vR 26) .none .none .none 203 204,
 ZE 27 3 24,
 oT #[.none],
 oT #[],
 oN #[],
 oT #[.str "self" 213,.str "what" 214,.str "at" 215],
 oT #[],
 oG "__init__" "MintError.__init__" 3 1 3 1,
 oK "__init__" 210 "MintError.__init__" 8 3 3 30 216 217,
 MP "__init__" "MintError.__init__" 3 1 3 1 (vR 29) 35,
 oT #[],
 oN #[],
 oT #[.str "self" 222],
 oT #[],
 oG "told" "MintError.told" 3 2 51 1,
 oK "told" 219 "MintError.told" 13 1 3 37 223 224,
 MP "told" "MintError.told" 3 2 51 1 .none 42,
 oT #[.str "at" 226,.str "what" 227],
 oD #[oE P "__module__" 205 w2,oE P "__firstlineno__" 209 (.int 6 208),oE P "__init__" 218 (vR 36),oE P "told" 225 (vR 43),oE P "__static_attributes__" 228 (vR 44),oE P "__weakref__" 230 (vR 47),oE P "__doc__" 231 .none] 3,
 .mk (.type "type") none (.cls (.mk "MintError" [.type "Exception"] [vR 46,.type "Exception",.type "BaseException",.type "object"] 45 "MintError" true [] [vR 59,vR 71,vR 83,vR 95] false none false)) #[some (vR 22),none,some (.str "MintError" 198),some (.str "MintError" 206),some (.builtin "Exception.__new__"),some (.bool true)],
 .mk (.type "getset_descriptor") none (.fields #[.str "__weakref__" 229,vR 46,.builtin "ExceptionGroup.__weakref__",.none]) #[],
 .mk (.type "super") none (.fields #[vR 46,vR 46,vR 46]) #[],
 oB #[.builtin "object.__init_subclass__",vR 46],
 oT #[vR 46],
 oB #[.builtin "type.__prepare__",.type "type"],
 oD #[oE P "__module__" 243 w2,oE P "__qualname__" 245 (.str "ReadError" 244),oE P "__firstlineno__" 247 (.int 17 246),oE P "__static_attributes__" 248 (vR 57)] 4,
 oT #[],
 oN #[],
 oC "ReadError" 238 "ReadError" 239 240 17 0 0 (vR 53) false 181 (vR 54) .none .none .none 241 242,
 ZE 55 3 52,
 oT #[],
 oD #[oE P "__module__" 243 w2,oE P "__firstlineno__" 247 (.int 17 246),oE P "__static_attributes__" 248 (vR 57),oE P "__doc__" 249 .none] 2,
 .mk (.type "type") none (.cls (.mk "ReadError" [vR 46] [vR 59,vR 46,.type "Exception",.type "BaseException",.type "object"] 58 "ReadError" true [] [] false none false)) #[some (vR 50),none,some (.str "ReadError" 236),some (.str "ReadError" 244),some (.builtin "Exception.__new__"),some (.bool true)],
 .mk (.type "super") none (.fields #[vR 59,vR 59,vR 59]) #[],
 oB #[.builtin "object.__init_subclass__",vR 59],
 oT #[vR 46],
 oB #[.builtin "type.__prepare__",.type "type"],
 oD #[oE P "__module__" 259 w2,oE P "__qualname__" 261 (.str "EncodeError" 260),oE P "__firstlineno__" 263 (.int 19 262),oE P "__static_attributes__" 264 (vR 69)] 4,
 oT #[],
 oN #[],
 oC "EncodeError" 254 "EncodeError" 255 256 19 0 0 (vR 65) false 181 (vR 66) .none .none .none 257 258,
 ZE 67 3 64,
 oT #[],
 oD #[oE P "__module__" 259 w2,oE P "__firstlineno__" 263 (.int 19 262),oE P "__static_attributes__" 264 (vR 69),oE P "__doc__" 265 .none] 2,
 .mk (.type "type") none (.cls (.mk "EncodeError" [vR 46] [vR 71,vR 46,.type "Exception",.type "BaseException",.type "object"] 70 "EncodeError" true [] [] false none false)) #[some (vR 62),none,some (.str "EncodeError" 252),some (.str "EncodeError" 260),some (.builtin "Exception.__new__"),some (.bool true)],
 .mk (.type "super") none (.fields #[vR 71,vR 71,vR 71]) #[],
 oB #[.builtin "object.__init_subclass__",vR 71],
 oT #[vR 46],
 oB #[.builtin "type.__prepare__",.type "type"],
 oD #[oE P "__module__" 275 w2,oE P "__qualname__" 277 (.str "SymbolError" 276),oE P "__firstlineno__" 279 (.int 21 278),oE P "__static_attributes__" 280 (vR 81)] 4,
 oT #[],
 oN #[],
 oC "SymbolError" 270 "SymbolError" 271 272 21 0 0 (vR 77) false 181 (vR 78) .none .none .none 273 274,
 ZE 79 3 76,
 oT #[],
 oD #[oE P "__module__" 275 w2,oE P "__firstlineno__" 279 (.int 21 278),oE P "__static_attributes__" 280 (vR 81),oE P "__doc__" 281 .none] 2,
 .mk (.type "type") none (.cls (.mk "SymbolError" [vR 46] [vR 83,vR 46,.type "Exception",.type "BaseException",.type "object"] 82 "SymbolError" true [] [] false none false)) #[some (vR 74),none,some (.str "SymbolError" 268),some (.str "SymbolError" 276),some (.builtin "Exception.__new__"),some (.bool true)],
 .mk (.type "super") none (.fields #[vR 83,vR 83,vR 83]) #[],
 oB #[.builtin "object.__init_subclass__",vR 83],
 oT #[vR 46],
 oB #[.builtin "type.__prepare__",.type "type"],
 oD #[oE P "__module__" 291 w2,oE P "__qualname__" 293 (.str "LayoutError" 292),oE P "__firstlineno__" 295 (.int 23 294),oE P "__static_attributes__" 296 (vR 93)] 4,
 oT #[],
 oN #[],
 oC "LayoutError" 286 "LayoutError" 287 288 23 0 0 (vR 89) false 181 (vR 90) .none .none .none 289 290,
 ZE 91 3 88,
 oT #[],
 oD #[oE P "__module__" 291 w2,oE P "__firstlineno__" 295 (.int 23 294),oE P "__static_attributes__" 296 (vR 93),oE P "__doc__" 297 .none] 2,
 .mk (.type "type") none (.cls (.mk "LayoutError" [vR 46] [vR 95,vR 46,.type "Exception",.type "BaseException",.type "object"] 94 "LayoutError" true [] [] false none false)) #[some (vR 86),none,some (.str "LayoutError" 284),some (.str "LayoutError" 292),some (.builtin "Exception.__new__"),some (.bool true)],
 .mk (.type "super") none (.fields #[vR 95,vR 95,vR 95]) #[],
 oB #[.builtin "object.__init_subclass__",vR 95],
 oT #[],
 oN #[],
 oT #[.str "size" 303],
 oT #[],
 oG "mask" "mask" 8 0 8 0,
 oK "mask" 300 "mask" 25 1 3 98 304 305,
 MP "mask" "mask" 8 0 8 0 .none 103,
 oT #[],
 oN #[],
 oT #[.str "worth" 310,.str "size" 311],
 oT #[],
 oG "wrap" "wrap" 9 0 10 0,
 oK "wrap" 307 "wrap" 27 2 3 105 312 313,
 MP "wrap" "wrap" 9 0 10 0 .none 110,
 oT #[],
 oN #[],
 oT #[.str "worth" 318,.str "size" 319],
 oT #[],
 oG "fits_either" "fits_either" 10 0 10 0,
 oK "fits_either" 315 "fits_either" 29 2 3 112 320 321,
 MP "fits_either" "fits_either" 10 0 10 0 .none 117,
 oT #[],
 oN #[],
 oT #[.str "worth" 326,.str "width" 327,.str "rest" 328,.str "octets" 329,.str "spot" 330],
 oT #[],
 oG "little" "little" 11 0 11 0,
 oK "little" 323 "little" 31 2 3 119 331 332,
 MP "little" "little" 11 0 11 0 .none 124,
 oT #[],
 oN #[],
 oG "leb_octets" "leb_octets" 12 0 12 0,
 oC "leb_octets" 334 "leb_octets" 335 336 38 1 3 (vR 126) true 181 (vR 127) .none .none (vR 128) 337 338,
 MP "leb_octets" "leb_octets" 12 0 12 0 .none 129,
 oT #[],
 oN #[],
 oT #[.str "worth" 343,.str "groups" 344,.str "rest" 345],
 oT #[],
 oG "uleb" "uleb" 13 0 13 0,
 oK "uleb" 340 "uleb" 44 1 3 131 346 347,
 MP "uleb" "uleb" 13 0 13 0 .none 136,
 oT #[],
 oN #[],
 oT #[.str "worth" 352,.str "groups" 353,.str "rest" 354],
 oT #[],
 oG "sleb" "sleb" 14 0 14 0,
 oK "sleb" 349 "sleb" 53 1 3 138 355 356,
 MP "sleb" "sleb" 14 0 14 0 .none 143,
 oT #[],
 oB #[.builtin "type.__prepare__",.type "type"],
 oD #[oE P "__module__" 367 (.str "octetmint.encoder" 358),oE P "__qualname__" 369 (.str "Fixup" 368),oE P "__firstlineno__" 371 (.int 61 370),oE P "__init__" 383 (vR 158),oE P "told" 390 (vR 165),oE P "moved" 398 (vR 172),oE P "__static_attributes__" 404 (vR 173)] 7,
 oT #[],
 oN #[vI 63,vI 4,vR 157,vI 70,vI 4,vR 164,vI 73,vI 4,vR 171],
 oC "Fixup" 362 "Fixup" 363 364 61 0 0 (vR 148) false 181 (vR 149) .none .none .none 365 366,
 oR 150 3 147 "octetmint.encoder" 358,
 oT #[],
 oN #[],
 oT #[.str "self" 375,.str "at" 376,.str "width" 377,.str "name" 378,.str "worth" 379,.str "way" 380],
 oT #[],
 oG "__init__" "Fixup.__init__" 16 1 16 1,
 oK "__init__" 372 "Fixup.__init__" 63 6 3 152 381 382,
 oF "__init__" "Fixup.__init__" 16 1 16 1 .none "octetmint.encoder" 358 157,
 oT #[],
 oN #[],
 oT #[.str "self" 387],
 oT #[],
 oG "told" "Fixup.told" 16 2 51 1,
 oK "told" 384 "Fixup.told" 70 1 3 159 388 389,
 oF "told" "Fixup.told" 16 2 51 1 .none "octetmint.encoder" 358 164,
 oT #[],
 oN #[],
 oT #[.str "self" 394,.str "more" 395],
 oT #[],
 oG "moved" "Fixup.moved" 16 3 16 3,
 oK "moved" 391 "Fixup.moved" 73 2 3 166 396 397,
 oF "moved" "Fixup.moved" 16 3 16 3 .none "octetmint.encoder" 358 171,
 oT #[.str "at" 399,.str "name" 400,.str "way" 401,.str "width" 402,.str "worth" 403],
 oD #[oE P "__module__" 367 (.str "octetmint.encoder" 358),oE P "__firstlineno__" 371 (.int 61 370),oE P "__init__" 383 (vR 158),oE P "told" 390 (vR 165),oE P "moved" 398 (vR 172),oE P "__static_attributes__" 404 (vR 173),oE P "__dict__" 406 (vR 176),oE P "__weakref__" 408 (vR 177),oE P "__doc__" 409 .none] 4,
 .mk (.type "type") none (.cls (.mk "Fixup" [.type "object"] [vR 175,.type "object"] 174 "Fixup" true [] [] false none false)) #[none,none,some (.str "Fixup" 360),some (.str "Fixup" 368),some (.builtin "object.__new__"),some (.bool true)],
 .mk (.type "getset_descriptor") none (.fields #[.str "__dict__" 405,vR 175,.builtin "function.__dict__",.builtin "function.__dict__#set"]) #[],
 .mk (.type "getset_descriptor") none (.fields #[.str "__weakref__" 407,vR 175,.builtin "ExceptionGroup.__weakref__",.none]) #[],
 .mk (.type "super") none (.fields #[vR 175,vR 175,vR 175]) #[],
 oB #[.builtin "object.__init_subclass__",vR 175],
 oT #[],
 oB #[.builtin "type.__prepare__",.type "type"],
 oD #[oE P "__module__" 423 w1,oE P "__qualname__" 425 (.str "Expr" 424),oE P "__firstlineno__" 427 (.int 77 426),oE P "__init__" 435 (vR 193),oE P "told" 442 (vR 200),oE P "__static_attributes__" 444 (vR 201)] 6,
 oT #[],
 oN #[vI 79,vI 4,vR 192,vI 82,vI 4,vR 199],
 oC "Expr" 418 "Expr" 419 420 77 0 0 (vR 183) false 181 (vR 184) .none .none .none 421 422,
 RT 185 3 182,
 oT #[],
 oN #[],
 oT #[.str "self" 431,.str "kind" 432],
 oT #[],
 oG "__init__" "Expr.__init__" 19 1 19 1,
 oK "__init__" 428 "Expr.__init__" 79 2 3 187 433 434,
 lM "__init__" "Expr.__init__" 19 1 19 1 .none 192,
 oT #[],
 oN #[],
 oT #[.str "self" 439],
 oT #[],
 oG "told" "Expr.told" 19 2 51 1,
 oK "told" 436 "Expr.told" 82 1 3 194 440 441,
 lM "told" "Expr.told" 19 2 51 1 .none 199,
 oT #[.str "kind" 443],
 oD #[oE P "__module__" 423 w1,oE P "__firstlineno__" 427 (.int 77 426),oE P "__init__" 435 (vR 193),oE P "told" 442 (vR 200),oE P "__static_attributes__" 444 (vR 201),oE P "__dict__" 446 (vR 204),oE P "__weakref__" 448 (vR 205),oE P "__doc__" 449 .none] 4,
 .mk (.type "type") none (.cls (.mk "Expr" [.type "object"] [vR 203,.type "object"] 202 "Expr" true [] [vR 231,vR 257,vR 283,vR 309] false none false)) #[none,none,some (.str "Expr" 416),some (.str "Expr" 424),some (.builtin "object.__new__"),some (.bool true)],
 .mk (.type "getset_descriptor") none (.fields #[.str "__dict__" 445,vR 203,.builtin "function.__dict__",.builtin "function.__dict__#set"]) #[],
 .mk (.type "getset_descriptor") none (.fields #[.str "__weakref__" 447,vR 203,.builtin "ExceptionGroup.__weakref__",.none]) #[],
 .mk (.type "super") none (.fields #[vR 203,vR 203,vR 203]) #[],
 oB #[.builtin "object.__init_subclass__",vR 203],
 oT #[vR 203],
 oB #[.builtin "type.__prepare__",.type "type"],
 oD #[oE P "__module__" 459 w1,oE P "__qualname__" 461 (.str "Number" 460),oE P "__firstlineno__" 463 (.int 84 462),oE P "__init__" 471 (vR 221),oE P "told" 478 (vR 228),oE P "__static_attributes__" 481 (vR 229)] 6,
 oT #[],
 oN #[vI 86,vI 4,vR 220,vI 90,vI 4,vR 227],
 oC "Number" 454 "Number" 455 456 84 0 0 (vR 211) false 181 (vR 212) .none .none .none 457 458,
 RT 213 3 210,
 oT #[],
 oN #[],
 oT #[.str "self" 467,.str "worth" 468],
 oT #[],
 oG "__init__" "Number.__init__" 20 1 20 1,
 oK "__init__" 464 "Number.__init__" 86 2 3 215 469 470,
 lM "__init__" "Number.__init__" 20 1 20 1 .none 220,
 oT #[],
 oN #[],
 oT #[.str "self" 475],
 oT #[],
 oG "told" "Number.told" 20 2 51 1,
 oK "told" 472 "Number.told" 90 1 3 222 476 477,
 lM "told" "Number.told" 20 2 51 1 .none 227,
 oT #[.str "kind" 479,.str "worth" 480],
 oD #[oE P "__module__" 459 w1,oE P "__firstlineno__" 463 (.int 84 462),oE P "__init__" 471 (vR 221),oE P "told" 478 (vR 228),oE P "__static_attributes__" 481 (vR 229),oE P "__doc__" 482 .none] 2,
 .mk (.type "type") none (.cls (.mk "Number" [vR 203] [vR 231,vR 203,.type "object"] 230 "Number" true [] [] false none false)) #[some (vR 208),none,some (.str "Number" 452),some (.str "Number" 460),some (.builtin "object.__new__"),some (.bool true)],
 .mk (.type "super") none (.fields #[vR 231,vR 231,vR 231]) #[],
 oB #[.builtin "object.__init_subclass__",vR 231],
 oT #[vR 203],
 oB #[.builtin "type.__prepare__",.type "type"],
 oD #[oE P "__module__" 492 w1,oE P "__qualname__" 494 (.str "Symbol" 493),oE P "__firstlineno__" 496 (.int 92 495),oE P "__init__" 504 (vR 247),oE P "told" 511 (vR 254),oE P "__static_attributes__" 514 (vR 255)] 6,
 oT #[],
 oN #[vI 94,vI 4,vR 246,vI 98,vI 4,vR 253],
 oC "Symbol" 487 "Symbol" 488 489 92 0 0 (vR 237) false 181 (vR 238) .none .none .none 490 491,
 RT 239 3 236,
 oT #[],
 oN #[],
 oT #[.str "self" 500,.str "name" 501],
 oT #[],
 oG "__init__" "Symbol.__init__" 21 1 51 4,
 oK "__init__" 497 "Symbol.__init__" 94 2 3 241 502 503,
 lM "__init__" "Symbol.__init__" 21 1 51 4 .none 246,
 oT #[],
 oN #[],
 oT #[.str "self" 508],
 oT #[],
 oG "told" "Symbol.told" 21 2 51 1,
 oK "told" 505 "Symbol.told" 98 1 3 248 509 510,
 lM "told" "Symbol.told" 21 2 51 1 .none 253,
 oT #[.str "kind" 512,.str "name" 513],
 oD #[oE P "__module__" 492 w1,oE P "__firstlineno__" 496 (.int 92 495),oE P "__init__" 504 (vR 247),oE P "told" 511 (vR 254),oE P "__static_attributes__" 514 (vR 255),oE P "__doc__" 515 .none] 2,
 .mk (.type "type") none (.cls (.mk "Symbol" [vR 203] [vR 257,vR 203,.type "object"] 256 "Symbol" true [] [] false none false)) #[some (vR 234),none,some (.str "Symbol" 485),some (.str "Symbol" 493),some (.builtin "object.__new__"),some (.bool true)],
 .mk (.type "super") none (.fields #[vR 257,vR 257,vR 257]) #[],
 oB #[.builtin "object.__init_subclass__",vR 257],
 oT #[vR 203],
 oB #[.builtin "type.__prepare__",.type "type"],
 oD #[oE P "__module__" 525 w1,oE P "__qualname__" 527 (.str "Unary" 526),oE P "__firstlineno__" 529 (.int 100 528),oE P "__init__" 538 (vR 273),oE P "told" 545 (vR 280),oE P "__static_attributes__" 549 (vR 281)] 6,
 oT #[],
 oN #[vI 102,vI 4,vR 272,vI 107,vI 4,vR 279],
 oC "Unary" 520 "Unary" 521 522 100 0 0 (vR 263) false 181 (vR 264) .none .none .none 523 524,
 RT 265 3 262,
 oT #[],
 oN #[],
 oT #[.str "self" 533,.str "sign" 534,.str "body" 535],
 oT #[],
 oG "__init__" "Unary.__init__" 22 1 22 1,
 oK "__init__" 530 "Unary.__init__" 102 3 3 267 536 537,
 lM "__init__" "Unary.__init__" 22 1 22 1 .none 272,
 oT #[],
 oN #[],
 oT #[.str "self" 542],
 oT #[],
 oG "told" "Unary.told" 22 2 51 1,
 oK "told" 539 "Unary.told" 107 1 3 274 543 544,
 lM "told" "Unary.told" 22 2 51 1 .none 279,
 oT #[.str "body" 546,.str "kind" 547,.str "sign" 548],
 oD #[oE P "__module__" 525 w1,oE P "__firstlineno__" 529 (.int 100 528),oE P "__init__" 538 (vR 273),oE P "told" 545 (vR 280),oE P "__static_attributes__" 549 (vR 281),oE P "__doc__" 550 .none] 2,
 .mk (.type "type") none (.cls (.mk "Unary" [vR 203] [vR 283,vR 203,.type "object"] 282 "Unary" true [] [] false none false)) #[some (vR 260),none,some (.str "Unary" 518),some (.str "Unary" 526),some (.builtin "object.__new__"),some (.bool true)],
 .mk (.type "super") none (.fields #[vR 283,vR 283,vR 283]) #[],
 oB #[.builtin "object.__init_subclass__",vR 283],
 oT #[vR 203],
 oB #[.builtin "type.__prepare__",.type "type"],
 oD #[oE P "__module__" 560 w1,oE P "__qualname__" 562 (.str "Binary" 561),oE P "__firstlineno__" 564 (.int 109 563),oE P "__init__" 574 (vR 299),oE P "told" 585 (vR 306),oE P "__static_attributes__" 590 (vR 307)] 6,
 oT #[],
 oN #[vI 111,vI 4,vR 298,vI 117,vI 4,vR 305],
 oC "Binary" 555 "Binary" 556 557 109 0 0 (vR 289) false 181 (vR 290) .none .none .none 558 559,
 RT 291 3 288,
 oT #[],
 oN #[],
 oT #[.str "self" 568,.str "sign" 569,.str "left" 570,.str "right" 571],
 oT #[],
 oG "__init__" "Binary.__init__" 23 1 23 1,
 oK "__init__" 565 "Binary.__init__" 111 4 3 293 572 573,
 lM "__init__" "Binary.__init__" 23 1 23 1 .none 298,
 oT #[],
 oN #[],
 oT #[.str "self" 578,.str "inner" 579,.str "spine" 580,.str "worth" 581,.str "part" 582],
 oT #[],
 oG "told" "Binary.told" 23 2 23 2,
 oK "told" 575 "Binary.told" 117 1 3 300 583 584,
 lM "told" "Binary.told" 23 2 23 2 .none 305,
 oT #[.str "kind" 586,.str "left" 587,.str "right" 588,.str "sign" 589],
 oD #[oE P "__module__" 560 w1,oE P "__firstlineno__" 564 (.int 109 563),oE P "__init__" 574 (vR 299),oE P "told" 585 (vR 306),oE P "__static_attributes__" 590 (vR 307),oE P "__doc__" 591 .none] 2,
 .mk (.type "type") none (.cls (.mk "Binary" [vR 203] [vR 309,vR 203,.type "object"] 308 "Binary" true [] [] false none false)) #[some (vR 286),none,some (.str "Binary" 553),some (.str "Binary" 561),some (.builtin "object.__new__"),some (.bool true)],
 .mk (.type "super") none (.fields #[vR 309,vR 309,vR 309]) #[],
 oB #[.builtin "object.__init_subclass__",vR 309],
 oT #[],
 oN #[],
 oT #[.str "node" 597,.str "spine" 598,.str "inner" 599],
 oT #[],
 oG "left_spine" "left_spine" 24 0 24 0,
 oK "left_spine" 594 "left_spine" 123 1 3 312 600 601,
 lM "left_spine" "left_spine" 24 0 24 0 .none 317,
 oT #[],
 oB #[.builtin "type.__prepare__",.type "type"],
 oD #[oE P "__module__" 610 w1,oE P "__qualname__" 612 (.str "Affine" 611),oE P "__firstlineno__" 614 (.int 131 613),oE P "__init__" 626 (vR 333),oE P "told" 633 (vR 340),oE P "is_number" 640 (vR 347),oE P "is_symbol" 647 (vR 354),oE P "negate" 654 (vR 361),oE P "add" 662 (vR 368),oE P "places" 670 (vR 375),oE P "__static_attributes__" 674 (vR 376)] 11,
 oT #[],
 oN #[vI 133,vI 4,vR 332,vI 138,vI 4,vR 339,vI 141,vI 4,vR 346,vI 144,vI 4,vR 353,vI 147,vI 4,vR 360,vI 150,vI 4,vR 367,vI 153,vI 4,vR 374],
 oC "Affine" 605 "Affine" 606 607 131 0 0 (vR 322) false 181 (vR 323) .none .none .none 608 609,
 RT 324 3 321,
 oT #[.str "" 615,.str "" 616],
 oT #[],
 oN #[],
 oT #[.str "self" 620,.str "worth" 621,.str "plus" 622,.str "minus" 623],
 oT #[],
 oG "__init__" "Affine.__init__" 25 1 25 1,
 oK "__init__" 617 "Affine.__init__" 133 4 3 327 624 625,
 lM "__init__" "Affine.__init__" 25 1 25 1 (vR 326) 332,
 oT #[],
 oN #[],
 oT #[.str "self" 630],
 oT #[],
 oG "told" "Affine.told" 25 2 51 1,
 oK "told" 627 "Affine.told" 138 1 3 334 631 632,
 lM "told" "Affine.told" 25 2 51 1 .none 339,
 oT #[],
 oN #[],
 oT #[.str "self" 637],
 oT #[],
 oG "is_number" "Affine.is_number" 25 3 51 1,
 oK "is_number" 634 "Affine.is_number" 141 1 3 341 638 639,
 lM "is_number" "Affine.is_number" 25 3 51 1 .none 346,
 oT #[],
 oN #[],
 oT #[.str "self" 644],
 oT #[],
 oG "is_symbol" "Affine.is_symbol" 25 4 25 4,
 oK "is_symbol" 641 "Affine.is_symbol" 144 1 3 348 645 646,
 lM "is_symbol" "Affine.is_symbol" 25 4 25 4 .none 353,
 oT #[],
 oN #[],
 oT #[.str "self" 651],
 oT #[],
 oG "negate" "Affine.negate" 25 5 25 5,
 oK "negate" 648 "Affine.negate" 147 1 3 355 652 653,
 lM "negate" "Affine.negate" 25 5 25 5 .none 360,
 oT #[],
 oN #[],
 oT #[.str "self" 658,.str "other" 659],
 oT #[],
 oG "add" "Affine.add" 25 6 25 6,
 oK "add" 655 "Affine.add" 150 2 3 362 660 661,
 lM "add" "Affine.add" 25 6 25 6 .none 367,
 oT #[],
 oN #[],
 oT #[.str "self" 666,.str "known" 667],
 oT #[],
 oG "places" "Affine.places" 25 7 25 7,
 oK "places" 663 "Affine.places" 153 2 3 369 668 669,
 lM "places" "Affine.places" 25 7 25 7 .none 374,
 oT #[.str "minus" 671,.str "plus" 672,.str "worth" 673],
 oD #[oE P "__module__" 610 w1,oE P "__firstlineno__" 614 (.int 131 613),oE P "__init__" 626 (vR 333),oE P "told" 633 (vR 340),oE P "is_number" 640 (vR 347),oE P "is_symbol" 647 (vR 354),oE P "negate" 654 (vR 361),oE P "add" 662 (vR 368),oE P "places" 670 (vR 375),oE P "__static_attributes__" 674 (vR 376),oE P "__dict__" 676 (vR 379),oE P "__weakref__" 678 (vR 380),oE P "__doc__" 679 .none] 4,
 .mk (.type "type") none (.cls (.mk "Affine" [.type "object"] [vR 378,.type "object"] 377 "Affine" true [] [] false none false)) #[none,none,some (.str "Affine" 603),some (.str "Affine" 611),some (.builtin "object.__new__"),some (.bool true)],
 .mk (.type "getset_descriptor") none (.fields #[.str "__dict__" 675,vR 378,.builtin "function.__dict__",.builtin "function.__dict__#set"]) #[],
 .mk (.type "getset_descriptor") none (.fields #[.str "__weakref__" 677,vR 378,.builtin "ExceptionGroup.__weakref__",.none]) #[],
 .mk (.type "super") none (.fields #[vR 378,vR 378,vR 378]) #[],
 oB #[.builtin "object.__init_subclass__",vR 378],
 oT #[],
 oN #[],
 oG "affine_of" "affine_of" 26 0 26 0,
 oC "affine_of" 682 "affine_of" 683 684 155 3 3 (vR 383) true 181 (vR 384) .none .none (vR 385) 685 686,
 lM "affine_of" "affine_of" 26 0 26 0 .none 386,
 oT #[],
 oB #[.builtin "type.__prepare__",.type "type"],
 oD #[oE P "__module__" 695 w1,oE P "__qualname__" 697 (.str "Scope" 696),oE P "__firstlineno__" 699 (.int 166 698),oE P "__init__" 707 (vR 402),oE P "put" 716 (vR 409),oE P "find" 724 (vR 416),oE P "settled" 734 (vR 423),oE P "__static_attributes__" 736 (vR 424)] 8,
 oT #[],
 oN #[vI 168,vI 4,vR 401,vI 171,vI 4,vR 408,vI 174,vI 4,vR 415,vI 177,vI 4,vR 422],
 oC "Scope" 690 "Scope" 691 692 166 0 0 (vR 391) false 181 (vR 392) .none .none .none 693 694,
 RT 393 3 390,
 oT #[.none],
 oT #[],
 oN #[],
 oT #[.str "self" 703,.str "equates" 704],
 oT #[],
 oG "__init__" "Scope.__init__" 27 1 27 1,
 oK "__init__" 700 "Scope.__init__" 168 2 3 396 705 706,
 lM "__init__" "Scope.__init__" 27 1 27 1 (vR 395) 401,
 oT #[],
 oN #[],
 oT #[.str "self" 711,.str "name" 712,.str "affine" 713],
 oT #[],
 oG "put" "Scope.put" 27 2 27 2,
 oK "put" 708 "Scope.put" 171 3 3 403 714 715,
 lM "put" "Scope.put" 27 2 27 2 .none 408,
 oT #[],
 oN #[],
 oT #[.str "self" 720,.str "name" 721],
 oT #[],
 oG "find" "Scope.find" 27 3 27 3,
 oK "find" 717 "Scope.find" 174 2 3 410 722 723,
 lM "find" "Scope.find" 27 3 27 3 .none 415,
 oT #[],
 oN #[],
 oT #[.str "self" 728,.str "affine" 729,.str "left" 730,.str "found" 731],
 oT #[],
 oG "settled" "Scope.settled" 27 4 27 4,
 oK "settled" 725 "Scope.settled" 177 2 3 417 732 733,
 lM "settled" "Scope.settled" 27 4 27 4 .none 422,
 oT #[.str "equates" 735],
 oD #[oE P "__module__" 695 w1,oE P "__firstlineno__" 699 (.int 166 698),oE P "__init__" 707 (vR 402),oE P "put" 716 (vR 409),oE P "find" 724 (vR 416),oE P "settled" 734 (vR 423),oE P "__static_attributes__" 736 (vR 424),oE P "__dict__" 738 (vR 427),oE P "__weakref__" 740 (vR 428),oE P "__doc__" 741 .none] 4,
 .mk (.type "type") none (.cls (.mk "Scope" [.type "object"] [vR 426,.type "object"] 425 "Scope" true [] [] false none false)) #[none,none,some (.str "Scope" 688),some (.str "Scope" 696),some (.builtin "object.__new__"),some (.bool true)],
 .mk (.type "getset_descriptor") none (.fields #[.str "__dict__" 737,vR 426,.builtin "function.__dict__",.builtin "function.__dict__#set"]) #[],
 .mk (.type "getset_descriptor") none (.fields #[.str "__weakref__" 739,vR 426,.builtin "ExceptionGroup.__weakref__",.none]) #[],
 .mk (.type "super") none (.fields #[vR 426,vR 426,vR 426]) #[],
 oB #[.builtin "object.__init_subclass__",vR 426],
 oT #[],
 oN #[],
 oT #[.str "one" 747,.str "other" 748],
 oT #[],
 oG "quotient" "quotient" 28 0 28 0,
 oK "quotient" 744 "quotient" 189 2 3 431 749 750,
 lM "quotient" "quotient" 28 0 28 0 .none 436,
 oT #[],
 oN #[],
 oT #[.str "sign" 755,.str "one" 756,.str "count" 757],
 oT #[],
 oG "shifted" "shifted" 29 0 29 0,
 oK "shifted" 752 "shifted" 195 3 3 438 758 759,
 lM "shifted" "shifted" 29 0 29 0 .none 443,
 oT #[],
 oN #[],
 oT #[.str "sign" 764,.str "one" 765,.str "other" 766],
 oT #[],
 oG "reckoned" "reckoned" 30 0 30 0,
 oK "reckoned" 761 "reckoned" 201 3 3 445 767 768,
 lM "reckoned" "reckoned" 30 0 30 0 .none 450,
 oT #[],
 oN #[],
 oT #[.str "sign" 773,.str "left" 774,.str "right" 775],
 oT #[],
 oG "combined" "combined" 31 0 31 0,
 oK "combined" 770 "combined" 215 3 3 452 776 777,
 lM "combined" "combined" 31 0 31 0 .none 457,
 oT #[],
 oN #[],
 oT #[.str "sign" 782,.str "affine" 783],
 oT #[],
 oG "turned" "turned" 32 0 32 0,
 oK "turned" 779 "turned" 223 2 3 459 784 785,
 lM "turned" "turned" 32 0 32 0 .none 464,
 oT #[.str "" 787],
 oT #[],
 oN #[],
 oT #[.str "node" 791,.str "scope" 792,.str "here" 793,.str "inner" 794,.str "spine" 795,.str "worth" 796,.str "part" 797],
 oT #[],
 oG "evaluate" "evaluate" 33 0 33 0,
 oK "evaluate" 788 "evaluate" 231 3 3 467 798 799,
 lM "evaluate" "evaluate" 33 0 33 0 (vR 466) 472,
 oT #[],
 oN #[],
 oT #[.str "node" 804,.str "found" 805,.str "todo" 806,.str "part" 807],
 oT #[],
 oG "names_in" "names_in" 34 0 34 0,
 oK "names_in" 801 "names_in" 246 1 3 474 808 809,
 lM "names_in" "names_in" 34 0 34 0 .none 479,
 oT #[],
 oB #[.builtin "type.__prepare__",.type "type"],
 oD #[oE P "__module__" 820 w3,oE P "__qualname__" 822 (.str "Statement" 821),oE P "__firstlineno__" 824 (.int 260 823),oE P "__init__" 833 (vR 494),oE P "__static_attributes__" 836 (vR 495)] 5,
 oT #[],
 oN #[vI 262,vI 4,vR 493],
 oC "Statement" 815 "Statement" 816 817 260 0 0 (vR 484) false 181 (vR 485) .none .none .none 818 819,
 oR3 486 3 483,
 oT #[],
 oN #[],
 oT #[.str "self" 828,.str "way" 829,.str "at" 830],
 oT #[],
 oG "__init__" "Statement.__init__" 36 1 44 1,
 oK "__init__" 825 "Statement.__init__" 262 3 3 488 831 832,
 RS "__init__" "Statement.__init__" 36 1 44 1 .none 493,
 oT #[.str "at" 834,.str "way" 835],
 oD #[oE P "__module__" 820 w3,oE P "__firstlineno__" 824 (.int 260 823),oE P "__init__" 833 (vR 494),oE P "__static_attributes__" 836 (vR 495),oE P "__dict__" 838 (vR 498),oE P "__weakref__" 840 (vR 499),oE P "__doc__" 841 .none] 4,
 .mk (.type "type") none (.cls (.mk "Statement" [.type "object"] [vR 497,.type "object"] 496 "Statement" true [] [vR 523,vR 549] false none false)) #[none,none,some (.str "Statement" 813),some (.str "Statement" 821),some (.builtin "object.__new__"),some (.bool true)],
 .mk (.type "getset_descriptor") none (.fields #[.str "__dict__" 837,vR 497,.builtin "function.__dict__",.builtin "function.__dict__#set"]) #[],
 .mk (.type "getset_descriptor") none (.fields #[.str "__weakref__" 839,vR 497,.builtin "ExceptionGroup.__weakref__",.none]) #[],
 .mk (.type "super") none (.fields #[vR 497,vR 497,vR 497]) #[],
 oB #[.builtin "object.__init_subclass__",vR 497],
 oT #[vR 497],
 oB #[.builtin "type.__prepare__",.type "type"],
 oD #[oE P "__module__" 851 w3,oE P "__qualname__" 853 (.str "Deed" 852),oE P "__firstlineno__" 855 (.int 265 854),oE P "__init__" 865 (vR 515),oE P "told" 871 (vR 520),oE P "__static_attributes__" 874 (vR 521)] 6,
 oT #[],
 oN #[vI 267,vI 4,vR 514,vI 272,vI 4,vR 519],
 oC "Deed" 846 "Deed" 847 848 265 0 0 (vR 505) false 181 (vR 506) .none .none .none 849 850,
 oR3 507 3 504,
 oT #[],
 oN #[],
 oT #[.str "self" 859,.str "word" 860,.str "args" 861,.str "at" 862],
 oT #[],
 oG "__init__" "Deed.__init__" 37 1 37 1,
 oK "__init__" 856 "Deed.__init__" 267 4 3 509 863 864,
 RS "__init__" "Deed.__init__" 37 1 37 1 .none 514,
 oT #[],
 oN #[],
 oG "told" "Deed.told" 37 2 37 2,
 oC "told" 866 "Deed.told" 867 868 272 1 3 (vR 516) true 181 (vR 517) .none .none (vR 518) 869 870,
 RS "told" "Deed.told" 37 2 37 2 .none 519,
 oT #[.str "args" 872,.str "word" 873],
 oD #[oE P "__module__" 851 w3,oE P "__firstlineno__" 855 (.int 265 854),oE P "__init__" 865 (vR 515),oE P "told" 871 (vR 520),oE P "__static_attributes__" 874 (vR 521),oE P "__doc__" 875 .none] 2,
 .mk (.type "type") none (.cls (.mk "Deed" [vR 497] [vR 523,vR 497,.type "object"] 522 "Deed" true [] [] false none false)) #[some (vR 502),none,some (.str "Deed" 844),some (.str "Deed" 852),some (.builtin "object.__new__"),some (.bool true)],
 .mk (.type "super") none (.fields #[vR 523,vR 523,vR 523]) #[],
 oB #[.builtin "object.__init_subclass__",vR 523],
 oT #[vR 497],
 oB #[.builtin "type.__prepare__",.type "type"],
 oD #[oE P "__module__" 885 w3,oE P "__qualname__" 887 (.str "Equate" 886),oE P "__firstlineno__" 889 (.int 274 888),oE P "__init__" 899 (vR 539),oE P "told" 906 (vR 546),oE P "__static_attributes__" 909 (vR 547)] 6,
 oT #[],
 oN #[vI 276,vI 4,vR 538,vI 281,vI 4,vR 545],
 oC "Equate" 880 "Equate" 881 882 274 0 0 (vR 529) false 181 (vR 530) .none .none .none 883 884,
 oR3 531 3 528,
 oT #[],
 oN #[],
 oT #[.str "self" 893,.str "name" 894,.str "node" 895,.str "at" 896],
 oT #[],
 oG "__init__" "Equate.__init__" 38 1 38 1,
 oK "__init__" 890 "Equate.__init__" 276 4 3 533 897 898,
 RS "__init__" "Equate.__init__" 38 1 38 1 .none 538,
 oT #[],
 oN #[],
 oT #[.str "self" 903],
 oT #[],
 oG "told" "Equate.told" 38 2 51 1,
 oK "told" 900 "Equate.told" 281 1 3 540 904 905,
 RS "told" "Equate.told" 38 2 51 1 .none 545,
 oT #[.str "name" 907,.str "node" 908],
 oD #[oE P "__module__" 885 w3,oE P "__firstlineno__" 889 (.int 274 888),oE P "__init__" 899 (vR 539),oE P "told" 906 (vR 546),oE P "__static_attributes__" 909 (vR 547),oE P "__doc__" 910 .none] 2,
 .mk (.type "type") none (.cls (.mk "Equate" [vR 497] [vR 549,vR 497,.type "object"] 548 "Equate" true [] [] false none false)) #[some (vR 526),none,some (.str "Equate" 878),some (.str "Equate" 886),some (.builtin "object.__new__"),some (.bool true)],
 .mk (.type "super") none (.fields #[vR 549,vR 549,vR 549]) #[],
 oB #[.builtin "object.__init_subclass__",vR 549],
 oT #[],
 oN #[],
 oT #[.str "argument" 916],
 oT #[],
 oG "told_argument" "told_argument" 39 0 39 0,
 oK "told_argument" 913 "told_argument" 283 1 3 552 917 918,
 RS "told_argument" "told_argument" 39 0 39 0 .none 557,
 oT #[],
 oN #[],
 oG "solve_equates" "solve_equates" 40 0 40 0,
 oC "solve_equates" 920 "solve_equates" 921 922 287 1 3 (vR 559) true 181 (vR 560) .none .none (vR 561) 923 924,
 RS "solve_equates" "solve_equates" 40 0 40 0 .none 562,
 oT #[],
 oB #[.builtin "type.__prepare__",.type "type"],
 oD #[oE P "__module__" 943 w0,oE P "__qualname__" 945 (.str "Piece" 944),oE P "__firstlineno__" 947 (.int 307 946),oE P "__init__" 956 (vR 577),oE P "fixed_width" 963 (vR 584),oE P "__static_attributes__" 966 (vR 585)] 6,
 oT #[],
 oN #[vI 309,vI 4,vR 576,vI 313,vI 4,vR 583],
 oC "Piece" 938 "Piece" 939 940 307 0 0 (vR 567) false 181 (vR 568) .none .none .none 941 942,
 MQ 569 3 566,
 oT #[],
 oN #[],
 oT #[.str "self" 951,.str "way" 952,.str "at" 953],
 oT #[],
 oG "__init__" "Piece.__init__" 44 1 44 1,
 oK "__init__" 948 "Piece.__init__" 309 3 3 571 954 955,
 hZ "__init__" "Piece.__init__" 44 1 44 1 .none 576,
 oT #[],
 oN #[],
 oT #[.str "self" 960],
 oT #[],
 oG "fixed_width" "Piece.fixed_width" 44 2 51 1,
 oK "fixed_width" 957 "Piece.fixed_width" 313 1 3 578 961 962,
 hZ "fixed_width" "Piece.fixed_width" 44 2 51 1 .none 583,
 oT #[.str "at" 964,.str "way" 965],
 oD #[oE P "__module__" 943 w0,oE P "__firstlineno__" 947 (.int 307 946),oE P "__init__" 956 (vR 577),oE P "fixed_width" 963 (vR 584),oE P "__static_attributes__" 966 (vR 585),oE P "__dict__" 968 (vR 588),oE P "__weakref__" 970 (vR 589),oE P "__doc__" 971 .none] 4,
 .mk (.type "type") none (.cls (.mk "Piece" [.type "object"] [vR 587,.type "object"] 586 "Piece" true [] [vR 621,vR 648,vR 675,vR 709,vR 736] false none false)) #[none,none,some (.str "Piece" 936),some (.str "Piece" 944),some (.builtin "object.__new__"),some (.bool true)],
 .mk (.type "getset_descriptor") none (.fields #[.str "__dict__" 967,vR 587,.builtin "function.__dict__",.builtin "function.__dict__#set"]) #[],
 .mk (.type "getset_descriptor") none (.fields #[.str "__weakref__" 969,vR 587,.builtin "ExceptionGroup.__weakref__",.none]) #[],
 .mk (.type "super") none (.fields #[vR 587,vR 587,vR 587]) #[],
 oB #[.builtin "object.__init_subclass__",vR 587],
 oT #[vR 587],
 oB #[.builtin "type.__prepare__",.type "type"],
 oD #[oE P "__module__" 981 w0,oE P "__qualname__" 983 (.str "Octets" 982),oE P "__firstlineno__" 985 (.int 315 984),oE P "__init__" 995 (vR 606),oE P "fixed_width" 1002 (vR 613),oE P "told" 1008 (vR 618),oE P "__static_attributes__" 1011 (vR 619)] 7,
 oT #[],
 oN #[vI 317,vI 4,vR 605,vI 322,vI 4,vR 612,vI 325,vI 4,vR 617],
 oC "Octets" 976 "Octets" 977 978 315 0 0 (vR 595) false 181 (vR 596) .none .none .none 979 980,
 MQ 597 3 594,
 oT #[.none],
 oT #[],
 oN #[],
 oT #[.str "self" 989,.str "octets" 990,.str "fixups" 991,.str "at" 992],
 oT #[],
 oG "__init__" "Octets.__init__" 45 1 45 1,
 oK "__init__" 986 "Octets.__init__" 317 4 3 600 993 994,
 hZ "__init__" "Octets.__init__" 45 1 45 1 (vR 599) 605,
 oT #[],
 oN #[],
 oT #[.str "self" 999],
 oT #[],
 oG "fixed_width" "Octets.fixed_width" 45 2 45 2,
 oK "fixed_width" 996 "Octets.fixed_width" 322 1 3 607 1000 1001,
 hZ "fixed_width" "Octets.fixed_width" 45 2 45 2 .none 612,
 oT #[],
 oN #[],
 oG "told" "Octets.told" 45 3 45 3,
 oC "told" 1003 "Octets.told" 1004 1005 325 1 3 (vR 614) true 181 (vR 615) .none .none (vR 616) 1006 1007,
 hZ "told" "Octets.told" 45 3 45 3 .none 617,
 oT #[.str "fixups" 1009,.str "octets" 1010],
 oD #[oE P "__module__" 981 w0,oE P "__firstlineno__" 985 (.int 315 984),oE P "__init__" 995 (vR 606),oE P "fixed_width" 1002 (vR 613),oE P "told" 1008 (vR 618),oE P "__static_attributes__" 1011 (vR 619),oE P "__doc__" 1012 .none] 2,
 .mk (.type "type") none (.cls (.mk "Octets" [vR 587] [vR 621,vR 587,.type "object"] 620 "Octets" true [] [] false none false)) #[some (vR 592),none,some (.str "Octets" 974),some (.str "Octets" 982),some (.builtin "object.__new__"),some (.bool true)],
 .mk (.type "super") none (.fields #[vR 621,vR 621,vR 621]) #[],
 oB #[.builtin "object.__init_subclass__",vR 621],
 oT #[vR 587],
 oB #[.builtin "type.__prepare__",.type "type"],
 oD #[oE P "__module__" 1022 w0,oE P "__qualname__" 1024 (.str "Align" 1023),oE P "__firstlineno__" 1026 (.int 327 1025),oE P "__init__" 1036 (vR 638),oE P "told" 1043 (vR 645),oE P "__static_attributes__" 1046 (vR 646)] 6,
 oT #[],
 oN #[vI 329,vI 4,vR 637,vI 334,vI 4,vR 644],
 oC "Align" 1017 "Align" 1018 1019 327 0 0 (vR 627) false 181 (vR 628) .none .none .none 1020 1021,
 MQ 629 3 626,
 oT #[.none],
 oT #[],
 oN #[],
 oT #[.str "self" 1030,.str "step" 1031,.str "is_code" 1032,.str "at" 1033],
 oT #[],
 oG "__init__" "Align.__init__" 46 1 46 1,
 oK "__init__" 1027 "Align.__init__" 329 4 3 632 1034 1035,
 hZ "__init__" "Align.__init__" 46 1 46 1 (vR 631) 637,
 oT #[],
 oN #[],
 oT #[.str "self" 1040],
 oT #[],
 oG "told" "Align.told" 46 2 51 1,
 oK "told" 1037 "Align.told" 334 1 3 639 1041 1042,
 hZ "told" "Align.told" 46 2 51 1 .none 644,
 oT #[.str "is_code" 1044,.str "step" 1045],
 oD #[oE P "__module__" 1022 w0,oE P "__firstlineno__" 1026 (.int 327 1025),oE P "__init__" 1036 (vR 638),oE P "told" 1043 (vR 645),oE P "__static_attributes__" 1046 (vR 646),oE P "__doc__" 1047 .none] 2,
 .mk (.type "type") none (.cls (.mk "Align" [vR 587] [vR 648,vR 587,.type "object"] 647 "Align" true [] [] false none false)) #[some (vR 624),none,some (.str "Align" 1015),some (.str "Align" 1023),some (.builtin "object.__new__"),some (.bool true)],
 .mk (.type "super") none (.fields #[vR 648,vR 648,vR 648]) #[],
 oB #[.builtin "object.__init_subclass__",vR 648],
 oT #[vR 587],
 oB #[.builtin "type.__prepare__",.type "type"],
 oD #[oE P "__module__" 1057 w0,oE P "__qualname__" 1059 (.str "Org" 1058),oE P "__firstlineno__" 1061 (.int 336 1060),oE P "__init__" 1070 (vR 665),oE P "told" 1077 (vR 672),oE P "__static_attributes__" 1079 (vR 673)] 6,
 oT #[],
 oN #[vI 338,vI 4,vR 664,vI 342,vI 4,vR 671],
 oC "Org" 1052 "Org" 1053 1054 336 0 0 (vR 654) false 181 (vR 655) .none .none .none 1055 1056,
 MQ 656 3 653,
 oT #[.none],
 oT #[],
 oN #[],
 oT #[.str "self" 1065,.str "affine" 1066,.str "at" 1067],
 oT #[],
 oG "__init__" "Org.__init__" 47 1 47 1,
 oK "__init__" 1062 "Org.__init__" 338 3 3 659 1068 1069,
 hZ "__init__" "Org.__init__" 47 1 47 1 (vR 658) 664,
 oT #[],
 oN #[],
 oT #[.str "self" 1074],
 oT #[],
 oG "told" "Org.told" 47 2 51 1,
 oK "told" 1071 "Org.told" 342 1 3 666 1075 1076,
 hZ "told" "Org.told" 47 2 51 1 .none 671,
 oT #[.str "affine" 1078],
 oD #[oE P "__module__" 1057 w0,oE P "__firstlineno__" 1061 (.int 336 1060),oE P "__init__" 1070 (vR 665),oE P "told" 1077 (vR 672),oE P "__static_attributes__" 1079 (vR 673),oE P "__doc__" 1080 .none] 2,
 .mk (.type "type") none (.cls (.mk "Org" [vR 587] [vR 675,vR 587,.type "object"] 674 "Org" true [] [] false none false)) #[some (vR 651),none,some (.str "Org" 1050),some (.str "Org" 1058),some (.builtin "object.__new__"),some (.bool true)],
 .mk (.type "super") none (.fields #[vR 675,vR 675,vR 675]) #[],
 oB #[.builtin "object.__init_subclass__",vR 675],
 oT #[vR 587],
 oB #[.builtin "type.__prepare__",.type "type"],
 oD #[oE P "__module__" 1090 w0,oE P "__qualname__" 1092 (.str "Space" 1091),oE P "__firstlineno__" 1094 (.int 344 1093),oE P "__init__" 1104 (vR 692),oE P "fixed_width" 1111 (vR 699),oE P "told" 1118 (vR 706),oE P "__static_attributes__" 1121 (vR 707)] 7,
 oT #[],
 oN #[vI 346,vI 4,vR 691,vI 351,vI 4,vR 698,vI 354,vI 4,vR 705],
 oC "Space" 1085 "Space" 1086 1087 344 0 0 (vR 681) false 181 (vR 682) .none .none .none 1088 1089,
 MQ 683 3 680,
 oT #[.none],
 oT #[],
 oN #[],
 oT #[.str "self" 1098,.str "count" 1099,.str "fill" 1100,.str "at" 1101],
 oT #[],
 oG "__init__" "Space.__init__" 48 1 48 1,
 oK "__init__" 1095 "Space.__init__" 346 4 3 686 1102 1103,
 hZ "__init__" "Space.__init__" 48 1 48 1 (vR 685) 691,
 oT #[],
 oN #[],
 oT #[.str "self" 1108],
 oT #[],
 oG "fixed_width" "Space.fixed_width" 48 2 51 1,
 oK "fixed_width" 1105 "Space.fixed_width" 351 1 3 693 1109 1110,
 hZ "fixed_width" "Space.fixed_width" 48 2 51 1 .none 698,
 oT #[],
 oN #[],
 oT #[.str "self" 1115],
 oT #[],
 oG "told" "Space.told" 48 3 51 1,
 oK "told" 1112 "Space.told" 354 1 3 700 1116 1117,
 hZ "told" "Space.told" 48 3 51 1 .none 705,
 oT #[.str "count" 1119,.str "fill" 1120],
 oD #[oE P "__module__" 1090 w0,oE P "__firstlineno__" 1094 (.int 344 1093),oE P "__init__" 1104 (vR 692),oE P "fixed_width" 1111 (vR 699),oE P "told" 1118 (vR 706),oE P "__static_attributes__" 1121 (vR 707),oE P "__doc__" 1122 .none] 2,
 .mk (.type "type") none (.cls (.mk "Space" [vR 587] [vR 709,vR 587,.type "object"] 708 "Space" true [] [] false none false)) #[some (vR 678),none,some (.str "Space" 1083),some (.str "Space" 1091),some (.builtin "object.__new__"),some (.bool true)],
 .mk (.type "super") none (.fields #[vR 709,vR 709,vR 709]) #[],
 oB #[.builtin "object.__init_subclass__",vR 709],
 oT #[vR 587],
 oB #[.builtin "type.__prepare__",.type "type"],
 oD #[oE P "__module__" 1132 w0,oE P "__qualname__" 1134 (.str "Leb" 1133),oE P "__firstlineno__" 1136 (.int 356 1135),oE P "__init__" 1146 (vR 726),oE P "told" 1153 (vR 733),oE P "__static_attributes__" 1156 (vR 734)] 6,
 oT #[],
 oN #[vI 358,vI 4,vR 725,vI 363,vI 4,vR 732],
 oC "Leb" 1127 "Leb" 1128 1129 356 0 0 (vR 715) false 181 (vR 716) .none .none .none 1130 1131,
 MQ 717 3 714,
 oT #[.none],
 oT #[],
 oN #[],
 oT #[.str "self" 1140,.str "affine" 1141,.str "is_signed" 1142,.str "at" 1143],
 oT #[],
 oG "__init__" "Leb.__init__" 49 1 49 1,
 oK "__init__" 1137 "Leb.__init__" 358 4 3 720 1144 1145,
 hZ "__init__" "Leb.__init__" 49 1 49 1 (vR 719) 725,
 oT #[],
 oN #[],
 oT #[.str "self" 1150],
 oT #[],
 oG "told" "Leb.told" 49 2 51 1,
 oK "told" 1147 "Leb.told" 363 1 3 727 1151 1152,
 hZ "told" "Leb.told" 49 2 51 1 .none 732,
 oT #[.str "affine" 1154,.str "is_signed" 1155],
 oD #[oE P "__module__" 1132 w0,oE P "__firstlineno__" 1136 (.int 356 1135),oE P "__init__" 1146 (vR 726),oE P "told" 1153 (vR 733),oE P "__static_attributes__" 1156 (vR 734),oE P "__doc__" 1157 .none] 2,
 .mk (.type "type") none (.cls (.mk "Leb" [vR 587] [vR 736,vR 587,.type "object"] 735 "Leb" true [] [] false none false)) #[some (vR 712),none,some (.str "Leb" 1125),some (.str "Leb" 1133),some (.builtin "object.__new__"),some (.bool true)],
 .mk (.type "super") none (.fields #[vR 736,vR 736,vR 736]) #[],
 oB #[.builtin "object.__init_subclass__",vR 736],
 oT #[],
 oB #[.builtin "type.__prepare__",.type "type"],
 oD #[oE P "__module__" 1167 w0,oE P "__qualname__" 1169 (.str "Section" 1168),oE P "__firstlineno__" 1171 (.int 365 1170),oE P "__init__" 1179 (vR 752),oE P "is_code" 1186 (vR 759),oE P "is_empty" 1193 (vR 766),oE P "add" 1201 (vR 773),oE P "mark" 1209 (vR 780),oE P "fixed_distance" 1220 (vR 787),oE P "told" 1226 (vR 792),oE P "__static_attributes__" 1230 (vR 793)] 11,
 oT #[],
 oN #[vI 367,vI 4,vR 751,vI 372,vI 4,vR 758,vI 375,vI 4,vR 765,vI 378,vI 4,vR 772,vI 381,vI 4,vR 779,vI 384,vI 4,vR 786,vI 392,vI 4,vR 791],
 oC "Section" 1162 "Section" 1163 1164 365 0 0 (vR 742) false 181 (vR 743) .none .none .none 1165 1166,
 MQ 744 3 741,
 oT #[],
 oN #[],
 oT #[.str "self" 1175,.str "name" 1176],
 oT #[],
 oG "__init__" "Section.__init__" 50 1 51 4,
 oK "__init__" 1172 "Section.__init__" 367 2 3 746 1177 1178,
 hZ "__init__" "Section.__init__" 50 1 51 4 .none 751,
 oT #[],
 oN #[],
 oT #[.str "self" 1183],
 oT #[],
 oG "is_code" "Section.is_code" 50 2 51 1,
 oK "is_code" 1180 "Section.is_code" 372 1 3 753 1184 1185,
 hZ "is_code" "Section.is_code" 50 2 51 1 .none 758,
 oT #[],
 oN #[],
 oT #[.str "self" 1190],
 oT #[],
 oG "is_empty" "Section.is_empty" 50 3 51 1,
 oK "is_empty" 1187 "Section.is_empty" 375 1 3 760 1191 1192,
 hZ "is_empty" "Section.is_empty" 50 3 51 1 .none 765,
 oT #[],
 oN #[],
 oT #[.str "self" 1197,.str "piece" 1198],
 oT #[],
 oG "add" "Section.add" 50 4 50 4,
 oK "add" 1194 "Section.add" 378 2 3 767 1199 1200,
 hZ "add" "Section.add" 50 4 50 4 .none 772,
 oT #[],
 oN #[],
 oT #[.str "self" 1205,.str "name" 1206],
 oT #[],
 oG "mark" "Section.mark" 50 5 50 5,
 oK "mark" 1202 "Section.mark" 381 2 3 774 1207 1208,
 hZ "mark" "Section.mark" 50 5 50 5 .none 779,
 oT #[],
 oN #[],
 oT #[.str "self" 1213,.str "first" 1214,.str "last" 1215,.str "whole" 1216,.str "piece" 1217],
 oT #[],
 oG "fixed_distance" "Section.fixed_distance" 50 6 50 6,
 oK "fixed_distance" 1210 "Section.fixed_distance" 384 3 3 781 1218 1219,
 hZ "fixed_distance" "Section.fixed_distance" 50 6 50 6 .none 786,
 oT #[],
 oN #[],
 oG "told" "Section.told" 50 7 50 7,
 oC "told" 1221 "Section.told" 1222 1223 392 1 3 (vR 788) true 181 (vR 789) .none .none (vR 790) 1224 1225,
 hZ "told" "Section.told" 50 7 50 7 .none 791,
 oT #[.str "labels" 1227,.str "name" 1228,.str "pieces" 1229],
 oD #[oE P "__module__" 1167 w0,oE P "__firstlineno__" 1171 (.int 365 1170),oE P "__init__" 1179 (vR 752),oE P "is_code" 1186 (vR 759),oE P "is_empty" 1193 (vR 766),oE P "add" 1201 (vR 773),oE P "mark" 1209 (vR 780),oE P "fixed_distance" 1220 (vR 787),oE P "told" 1226 (vR 792),oE P "__static_attributes__" 1230 (vR 793),oE P "__dict__" 1232 (vR 796),oE P "__weakref__" 1234 (vR 797),oE P "__doc__" 1235 .none] 4,
 .mk (.type "type") none (.cls (.mk "Section" [.type "object"] [vR 795,.type "object"] 794 "Section" true [] [] false none false)) #[none,none,some (.str "Section" 1160),some (.str "Section" 1168),some (.builtin "object.__new__"),some (.bool true)],
 .mk (.type "getset_descriptor") none (.fields #[.str "__dict__" 1231,vR 795,.builtin "function.__dict__",.builtin "function.__dict__#set"]) #[],
 .mk (.type "getset_descriptor") none (.fields #[.str "__weakref__" 1233,vR 795,.builtin "ExceptionGroup.__weakref__",.none]) #[],
 .mk (.type "super") none (.fields #[vR 795,vR 795,vR 795]) #[],
 oB #[.builtin "object.__init_subclass__",vR 795],
 oT #[],
 oB #[.builtin "type.__prepare__",.type "type"],
 oD #[oE P "__module__" 1245 w0,oE P "__qualname__" 1247 (.str "Program" 1246),oE P "__firstlineno__" 1249 (.int 394 1248),oE P "__init__" 1256 (vR 813),oE P "section" 1264 (vR 820),oE P "home" 1273 (vR 827),oE P "add_global" 1281 (vR 834),oE P "add_difference" 1291 (vR 841),oE P "distance" 1304 (vR 848),oE P "told" 1310 (vR 853),oE P "__static_attributes__" 1315 (vR 854)] 11,
 oT #[],
 oN #[vI 396,vI 4,vR 812,vI 402,vI 4,vR 819,vI 408,vI 4,vR 826,vI 414,vI 4,vR 833,vI 418,vI 4,vR 840,vI 423,vI 4,vR 847,vI 433,vI 4,vR 852],
 oC "Program" 1240 "Program" 1241 1242 394 0 0 (vR 803) false 181 (vR 804) .none .none .none 1243 1244,
 MQ 805 3 802,
 oT #[],
 oN #[],
 oT #[.str "self" 1253],
 oT #[],
 oG "__init__" "Program.__init__" 51 1 51 1,
 oK "__init__" 1250 "Program.__init__" 396 1 3 807 1254 1255,
 hZ "__init__" "Program.__init__" 51 1 51 1 .none 812,
 oT #[],
 oN #[],
 oT #[.str "self" 1260,.str "name" 1261],
 oT #[],
 oG "section" "Program.section" 51 2 51 2,
 oK "section" 1257 "Program.section" 402 2 3 814 1262 1263,
 hZ "section" "Program.section" 51 2 51 2 .none 819,
 oT #[],
 oN #[],
 oT #[.str "self" 1268,.str "label" 1269,.str "name" 1270],
 oT #[],
 oG "home" "Program.home" 51 3 51 3,
 oK "home" 1265 "Program.home" 408 2 3 821 1271 1272,
 hZ "home" "Program.home" 51 3 51 3 .none 826,
 oT #[],
 oN #[],
 oT #[.str "self" 1277,.str "name" 1278],
 oT #[],
 oG "add_global" "Program.add_global" 51 4 51 4,
 oK "add_global" 1274 "Program.add_global" 414 2 3 828 1279 1280,
 hZ "add_global" "Program.add_global" 51 4 51 4 .none 833,
 oT #[],
 oN #[],
 oT #[.str "self" 1285,.str "one" 1286,.str "other" 1287,.str "name" 1288],
 oT #[],
 oG "add_difference" "Program.add_difference" 51 5 51 5,
 oK "add_difference" 1282 "Program.add_difference" 418 3 3 835 1289 1290,
 hZ "add_difference" "Program.add_difference" 51 5 51 5 .none 840,
 oT #[],
 oN #[],
 oT #[.str "self" 1295,.str "one" 1296,.str "other" 1297,.str "home" 1298,.str "last" 1299,.str "first" 1300,.str "back" 1301],
 oT #[],
 oG "distance" "Program.distance" 51 6 51 6,
 oK "distance" 1292 "Program.distance" 423 3 3 842 1302 1303,
 hZ "distance" "Program.distance" 51 6 51 6 .none 847,
 oT #[],
 oN #[],
 oG "told" "Program.told" 51 7 51 7,
 oC "told" 1305 "Program.told" 1306 1307 433 1 3 (vR 849) true 181 (vR 850) .none .none (vR 851) 1308 1309,
 hZ "told" "Program.told" 51 7 51 7 .none 852,
 oT #[.str "equates" 1311,.str "globals_" 1312,.str "names" 1313,.str "sections" 1314],
 oD #[oE P "__module__" 1245 w0,oE P "__firstlineno__" 1249 (.int 394 1248),oE P "__init__" 1256 (vR 813),oE P "section" 1264 (vR 820),oE P "home" 1273 (vR 827),oE P "add_global" 1281 (vR 834),oE P "add_difference" 1291 (vR 841),oE P "distance" 1304 (vR 848),oE P "told" 1310 (vR 853),oE P "__static_attributes__" 1315 (vR 854),oE P "__dict__" 1317 (vR 857),oE P "__weakref__" 1319 (vR 858),oE P "__doc__" 1320 .none] 4,
 .mk (.type "type") none (.cls (.mk "Program" [.type "object"] [vR 856,.type "object"] 855 "Program" true [] [] false none false)) #[none,none,some (.str "Program" 1238),some (.str "Program" 1246),some (.builtin "object.__new__"),some (.bool true)],
 .mk (.type "getset_descriptor") none (.fields #[.str "__dict__" 1316,vR 856,.builtin "function.__dict__",.builtin "function.__dict__#set"]) #[],
 .mk (.type "getset_descriptor") none (.fields #[.str "__weakref__" 1318,vR 856,.builtin "ExceptionGroup.__weakref__",.none]) #[],
 .mk (.type "super") none (.fields #[vR 856,vR 856,vR 856]) #[],
 oB #[.builtin "object.__init_subclass__",vR 856],
 oT #[],
 oN #[],
 oT #[.str "word" 1326],
 oT #[],
 oG "data_width" "data_width" 52 0 52 0,
 oK "data_width" 1323 "data_width" 436 1 3 861 1327 1328,
 hZ "data_width" "data_width" 52 0 52 0 .none 866,
 oT #[],
 oB #[.builtin "type.__prepare__",.type "type"],
 oD #[oE P "__module__" 1337 w0,oE P "__qualname__" 1339 (.str "Collector" 1338),oE P "__firstlineno__" 1341 (.int 444 1340),oE P "__init__" 1347 (vR 879),oE P "lay" 1355 (vR 886),oE P "label" 1364 (vR 893),oE P "code" 1373 (vR 900),oE P "octets" 1383 (vR 907),oE P "deed" 1396 (vR 914),oE P "worth" 1404 (vR 921),oE P "number" 1415 (vR 928),oE P "count" 1425 (vR 935),oE P "numbers" 1439 (vR 942),oE P "open_name" 1448 (vR 949),oE P "leb" 1458 (vR 956),oE P "align" 1469 (vR 963),oE P "org" 1478 (vR 970),oE P "space" 1488 (vR 977),oE P "fill" 1500 (vR 984),oE P "__static_attributes__" 1504 (vR 985)] 20,
 oT #[],
 oN #[vI 446,vI 4,vR 878,vI 454,vI 4,vR 885,vI 462,vI 4,vR 892,vI 467,vI 4,vR 899,vI 470,vI 4,vR 906,vI 476,vI 4,vR 913,vI 503,vI 4,vR 920,vI 506,vI 4,vR 927,vI 517,vI 4,vR 934,vI 523,vI 4,vR 941,vI 536,vI 4,vR 948,vI 543,vI 4,vR 955,vI 553,vI 4,vR 962,vI 561,vI 4,vR 969,vI 566,vI 4,vR 976,vI 574,vI 4,vR 983],
 oC "Collector" 1332 "Collector" 1333 1334 444 0 0 (vR 871) false 181 (vR 872) .none .none .none 1335 1336,
 MQ 873 3 870,
 oT #[],
 oN #[],
 oG "__init__" "Collector.__init__" 53 1 53 1,
 oC "__init__" 1342 "Collector.__init__" 1343 1344 446 2 3 (vR 875) true 181 (vR 876) .none .none (vR 877) 1345 1346,
 hZ "__init__" "Collector.__init__" 53 1 53 1 .none 878,
 oT #[],
 oN #[],
 oT #[.str "self" 1351,.str "statement" 1352],
 oT #[],
 oG "lay" "Collector.lay" 53 2 53 2,
 oK "lay" 1348 "Collector.lay" 454 2 3 880 1353 1354,
 hZ "lay" "Collector.lay" 53 2 53 2 .none 885,
 oT #[],
 oN #[],
 oT #[.str "self" 1359,.str "name" 1360,.str "at" 1361],
 oT #[],
 oG "label" "Collector.label" 53 3 53 3,
 oK "label" 1356 "Collector.label" 462 3 3 887 1362 1363,
 hZ "label" "Collector.label" 53 3 53 3 .none 892,
 oT #[],
 oN #[],
 oT #[.str "self" 1368,.str "instruction" 1369,.str "at" 1370],
 oT #[],
 oG "code" "Collector.code" 53 4 53 4,
 oK "code" 1365 "Collector.code" 467 3 3 894 1371 1372,
 hZ "code" "Collector.code" 53 4 53 4 .none 899,
 oT #[],
 oN #[],
 oT #[.str "self" 1377,.str "octets" 1378,.str "fixups" 1379,.str "at" 1380],
 oT #[],
 oG "octets" "Collector.octets" 53 5 53 5,
 oK "octets" 1374 "Collector.octets" 470 4 3 901 1381 1382,
 hZ "octets" "Collector.octets" 53 5 53 5 .none 906,
 oT #[],
 oN #[],
 oT #[.str "self" 1387,.str "word" 1388,.str "args" 1389,.str "at" 1390,.str "name" 1391,.str "octets" 1392,.str "node" 1393],
 oT #[],
 oG "deed" "Collector.deed" 53 6 53 6,
 oK "deed" 1384 "Collector.deed" 476 4 3 908 1394 1395,
 hZ "deed" "Collector.deed" 53 6 53 6 .none 913,
 oT #[],
 oN #[],
 oT #[.str "self" 1400,.str "node" 1401],
 oT #[],
 oG "worth" "Collector.worth" 53 7 53 7,
 oK "worth" 1397 "Collector.worth" 503 2 3 915 1402 1403,
 hZ "worth" "Collector.worth" 53 7 53 7 .none 920,
 oT #[],
 oN #[],
 oT #[.str "self" 1408,.str "node" 1409,.str "at" 1410,.str "affine" 1411,.str "found" 1412],
 oT #[],
 oG "number" "Collector.number" 53 8 53 8,
 oK "number" 1405 "Collector.number" 506 3 3 922 1413 1414,
 hZ "number" "Collector.number" 53 8 53 8 .none 927,
 oT #[],
 oN #[],
 oT #[.str "self" 1419,.str "node" 1420,.str "at" 1421,.str "found" 1422],
 oT #[],
 oG "count" "Collector.count" 53 9 53 9,
 oK "count" 1416 "Collector.count" 517 3 3 929 1423 1424,
 hZ "count" "Collector.count" 53 9 53 9 .none 934,
 oT #[],
 oN #[],
 oT #[.str "self" 1429,.str "width" 1430,.str "nodes" 1431,.str "at" 1432,.str "octets" 1433,.str "fixups" 1434,.str "node" 1435,.str "affine" 1436],
 oT #[],
 oG "numbers" "Collector.numbers" 53 10 53 10,
 oK "numbers" 1426 "Collector.numbers" 523 4 3 936 1437 1438,
 hZ "numbers" "Collector.numbers" 53 10 53 10 .none 941,
 oT #[],
 oN #[],
 oT #[.str "self" 1443,.str "affine" 1444,.str "at" 1445],
 oT #[],
 oG "open_name" "Collector.open_name" 53 11 53 11,
 oK "open_name" 1440 "Collector.open_name" 536 3 3 943 1446 1447,
 hZ "open_name" "Collector.open_name" 53 11 53 11 .none 948,
 oT #[],
 oN #[],
 oT #[.str "self" 1452,.str "affine" 1453,.str "is_signed" 1454,.str "at" 1455],
 oT #[],
 oG "leb" "Collector.leb" 53 12 53 12,
 oK "leb" 1449 "Collector.leb" 543 4 3 950 1456 1457,
 hZ "leb" "Collector.leb" 53 12 53 12 .none 955,
 oT #[],
 oN #[],
 oT #[.str "self" 1462,.str "number" 1463,.str "is_power" 1464,.str "at" 1465,.str "step" 1466],
 oT #[],
 oG "align" "Collector.align" 53 13 53 13,
 oK "align" 1459 "Collector.align" 553 4 3 957 1467 1468,
 hZ "align" "Collector.align" 53 13 53 13 .none 962,
 oT #[],
 oN #[],
 oT #[.str "self" 1473,.str "affine" 1474,.str "at" 1475],
 oT #[],
 oG "org" "Collector.org" 53 14 53 14,
 oK "org" 1470 "Collector.org" 561 3 3 964 1476 1477,
 hZ "org" "Collector.org" 53 14 53 14 .none 969,
 oT #[],
 oN #[],
 oT #[.str "self" 1482,.str "args" 1483,.str "at" 1484,.str "fill" 1485],
 oT #[],
 oG "space" "Collector.space" 53 15 53 15,
 oK "space" 1479 "Collector.space" 566 3 3 971 1486 1487,
 hZ "space" "Collector.space" 53 15 53 15 .none 976,
 oT #[],
 oN #[],
 oT #[.str "self" 1492,.str "args" 1493,.str "at" 1494,.str "width" 1495,.str "worth" 1496,.str "count" 1497],
 oT #[],
 oG "fill" "Collector.fill" 53 16 53 16,
 oK "fill" 1489 "Collector.fill" 574 3 3 978 1498 1499,
 hZ "fill" "Collector.fill" 53 16 53 16 .none 983,
 oT #[.str "program" 1501,.str "scope" 1502,.str "section" 1503],
 oD #[oE P "__module__" 1337 w0,oE P "__firstlineno__" 1341 (.int 444 1340),oE P "__init__" 1347 (vR 879),oE P "lay" 1355 (vR 886),oE P "label" 1364 (vR 893),oE P "code" 1373 (vR 900),oE P "octets" 1383 (vR 907),oE P "deed" 1396 (vR 914),oE P "worth" 1404 (vR 921),oE P "number" 1415 (vR 928),oE P "count" 1425 (vR 935),oE P "numbers" 1439 (vR 942),oE P "open_name" 1448 (vR 949),oE P "leb" 1458 (vR 956),oE P "align" 1469 (vR 963),oE P "org" 1478 (vR 970),oE P "space" 1488 (vR 977),oE P "fill" 1500 (vR 984),oE P "__static_attributes__" 1504 (vR 985),oE P "__dict__" 1506 (vR 988),oE P "__weakref__" 1508 (vR 989),oE P "__doc__" 1509 .none] 4,
 .mk (.type "type") none (.cls (.mk "Collector" [.type "object"] [vR 987,.type "object"] 986 "Collector" true [] [] false none false)) #[none,none,some (.str "Collector" 1330),some (.str "Collector" 1338),some (.builtin "object.__new__"),some (.bool true)],
 .mk (.type "getset_descriptor") none (.fields #[.str "__dict__" 1505,vR 987,.builtin "function.__dict__",.builtin "function.__dict__#set"]) #[],
 .mk (.type "getset_descriptor") none (.fields #[.str "__weakref__" 1507,vR 987,.builtin "ExceptionGroup.__weakref__",.none]) #[],
 .mk (.type "super") none (.fields #[vR 987,vR 987,vR 987]) #[],
 oB #[.builtin "object.__init_subclass__",vR 987],
 oT #[],
 oN #[],
 oT #[.str "cells" 1517,.str "many" 1518],
 oT #[],
 oG "_law_next" "_law_next" 55 0 55 0,
 oK "_law_next" 1514 "_law_next" 582 2 3 992 1519 1520,
 oF "_law_next" "_law_next" 55 0 55 0 .none "law_pb0429_01" 1512 997,
 oT #[],
 oN #[],
 oT #[.str "cells" 1525,.str "width" 1526,.str "top" 1527,.str "worth" 1528],
 oT #[],
 oG "_law_number" "_law_number" 56 0 56 0,
 oK "_law_number" 1522 "_law_number" 584 2 3 999 1529 1530,
 oF "_law_number" "_law_number" 56 0 56 0 .none "law_pb0429_01" 1512 1004,
 oT #[],
 oN #[],
 oT #[.str "cells" 1535,.str "width" 1536,.str "way" 1537,.str "worth" 1538,.str "node" 1539,.str "more" 1540],
 oT #[],
 oG "_law_part" "_law_part" 57 0 57 0,
 oK "_law_part" 1532 "_law_part" 588 2 3 1006 1541 1542,
 oF "_law_part" "_law_part" 57 0 57 0 .none "law_pb0429_01" 1512 1011,
 oT #[],
 oN #[],
 oG "_law_octets" "_law_octets" 58 0 58 0,
 oC "_law_octets" 1544 "_law_octets" 1545 1546 603 2 3 (vR 1013) true 181 (vR 1014) .none .none (vR 1015) 1547 1548,
 oF "_law_octets" "_law_octets" 58 0 58 0 .none "law_pb0429_01" 1512 1016,
 oT #[],
 oN #[],
 oT #[.str "parts" 1553,.str "width" 1554,.str "is_empty" 1555,.str "octets" 1556,.str "fields" 1557,.str "hidden" 1558,.str "node" 1559,.str "worth" 1560,.str "plus" 1561,.str "minus" 1562,.str "name" 1563],
 oT #[],
 oG "_law_due" "_law_due" 59 0 59 0,
 oK "_law_due" 1550 "_law_due" 606 3 3 1018 1564 1565,
 oF "_law_due" "_law_due" 59 0 59 0 .none "law_pb0429_01" 1512 1023,
 oT #[],
 oN #[],
 oT #[.str "collector" 1570,.str "width" 1571,.str "nodes" 1572,.str "word" 1573],
 oT #[],
 oG "_law_word" "_law_word" 60 0 60 0,
 oK "_law_word" 1567 "_law_word" 624 3 3 1025 1574 1575,
 oF "_law_word" "_law_word" 60 0 60 0 .none "law_pb0429_01" 1512 1030,
 oT #[],
 oN #[],
 oG "law" "law" 61 0 61 0,
 oC "law" 1577 "law" 1578 1579 635 1 3 (vR 1032) true 181 (vR 1033) .none .none (vR 1034) 1580 1581,
 oF "law" "law" 61 0 61 0 .none "law_pb0429_01" 1512 1035]
def OM (P:Params):List Obj:=vB 0 ((nM P).take 15) [
 (2,.mk .none none (.dict #[] 0) #[]),
 (3,oD #[oE P "__name__" 165 (.str "__main__" 164),oE P "__doc__" 166 .none,oE P "__package__" 167 .none,oE P "__loader__" 168 (.builtin "__main__.__loader__#opaque"),oE P "__spec__" 169 .none,oE P "__annotations__" 170 (vR 6),oE P "__builtins__" 171 (vR 4),oE P "__file__" 173 (.str "/claim/cut.py" 172),oE P "__cached__" 174 .none] 9),
 (12,oN #[])]
def ZF (P:Params):List Obj:=vB 0 ((nM P).take 312) [
 (3,oD #[oE P "__name__" 165 w1,oE P "__doc__" 166 .none,oE P "__package__" 167 .none,oE P "__loader__" 168 (.builtin "__main__.__loader__#opaque"),oE P "__spec__" 169 .none,oE P "__annotations__" 170 (vR 6),oE P "__builtins__" 171 (vR 4),oE P "__file__" 173 (.str "/claim/cut.py" 172),oE P "__cached__" 174 .none,oE P "_wall" 193 (vR 21),oE P "MOST_LEB" 197 (.int 10 196),oE P "MintError" 235 (vR 46),oE P "ReadError" 251 (vR 59),oE P "EncodeError" 267 (vR 71),oE P "SymbolError" 283 (vR 83),oE P "LayoutError" 299 (vR 95),oE P "mask" 306 (vR 104),oE P "wrap" 314 (vR 111),oE P "fits_either" 322 (vR 118),oE P "little" 333 (vR 125),oE P "leb_octets" 339 (vR 130),oE P "uleb" 348 (vR 137),oE P "sleb" 357 (vR 144),oE P "Fixup" 411 (vR 175),oE P "MOST_SHIFT" 415 (.int 63 414),oE P "Expr" 451 (vR 203),oE P "Number" 484 (vR 231),oE P "Symbol" 517 (vR 257),oE P "Unary" 552 (vR 283),oE P "Binary" 593 (vR 309)] 30),
 (12,oN #[vI 1,vI 0,vR 20,vI 6,vI 0,vR 27,vI 17,vI 0,vR 55,vI 19,vI 0,vR 67,vI 21,vI 0,vR 79,vI 23,vI 0,vR 91,vI 25,vI 0,vR 103,vI 27,vI 0,vR 110,vI 29,vI 0,vR 117,vI 31,vI 0,vR 124,vI 38,vI 0,vR 129,vI 44,vI 0,vR 136,vI 53,vI 0,vR 143,vI 61,vI 0,vR 150,vI 77,vI 0,vR 185,vI 84,vI 0,vR 213,vI 92,vI 0,vR 239,vI 100,vI 0,vR 265,vI 109,vI 0,vR 291])]
def ZG (P:Params):List Obj:=vB 0 ((nM P).take 651) [
 (3,oD #[oE P "__name__" 165 w0,oE P "__doc__" 166 .none,oE P "__package__" 167 .none,oE P "__loader__" 168 (.builtin "__main__.__loader__#opaque"),oE P "__spec__" 169 .none,oE P "__annotations__" 170 (vR 6),oE P "__builtins__" 171 (vR 4),oE P "__file__" 173 (.str "/claim/cut.py" 172),oE P "__cached__" 174 .none,oE P "_wall" 193 (vR 21),oE P "MOST_LEB" 197 (.int 10 196),oE P "MintError" 235 (vR 46),oE P "ReadError" 251 (vR 59),oE P "EncodeError" 267 (vR 71),oE P "SymbolError" 283 (vR 83),oE P "LayoutError" 299 (vR 95),oE P "mask" 306 (vR 104),oE P "wrap" 314 (vR 111),oE P "fits_either" 322 (vR 118),oE P "little" 333 (vR 125),oE P "leb_octets" 339 (vR 130),oE P "uleb" 348 (vR 137),oE P "sleb" 357 (vR 144),oE P "Fixup" 411 (vR 175),oE P "MOST_SHIFT" 415 (.int 63 414),oE P "Expr" 451 (vR 203),oE P "Number" 484 (vR 231),oE P "Symbol" 517 (vR 257),oE P "Unary" 552 (vR 283),oE P "Binary" 593 (vR 309),oE P "left_spine" 602 (vR 318),oE P "Affine" 681 (vR 378),oE P "affine_of" 687 (vR 387),oE P "Scope" 743 (vR 426),oE P "quotient" 751 (vR 437),oE P "shifted" 760 (vR 444),oE P "reckoned" 769 (vR 451),oE P "combined" 778 (vR 458),oE P "turned" 786 (vR 465),oE P "evaluate" 800 (vR 473),oE P "names_in" 810 (vR 480),oE P "Statement" 843 (vR 497),oE P "Deed" 877 (vR 523),oE P "Equate" 912 (vR 549),oE P "told_argument" 919 (vR 558),oE P "solve_equates" 925 (vR 563),oE P "MOST_OCTETS" 931 (.int 1048576 930),oE P "MOST_STEP" 935 (.int 32768 934),oE P "Piece" 973 (vR 587),oE P "Octets" 1014 (vR 621),oE P "Align" 1049 (vR 648)] 51),
 (12,oN #[vI 1,vI 0,vR 20,vI 6,vI 0,vR 27,vI 17,vI 0,vR 55,vI 19,vI 0,vR 67,vI 21,vI 0,vR 79,vI 23,vI 0,vR 91,vI 25,vI 0,vR 103,vI 27,vI 0,vR 110,vI 29,vI 0,vR 117,vI 31,vI 0,vR 124,vI 38,vI 0,vR 129,vI 44,vI 0,vR 136,vI 53,vI 0,vR 143,vI 61,vI 0,vR 150,vI 77,vI 0,vR 185,vI 84,vI 0,vR 213,vI 92,vI 0,vR 239,vI 100,vI 0,vR 265,vI 109,vI 0,vR 291,vI 123,vI 0,vR 317,vI 131,vI 0,vR 324,vI 155,vI 0,vR 386,vI 166,vI 0,vR 393,vI 189,vI 0,vR 436,vI 195,vI 0,vR 443,vI 201,vI 0,vR 450,vI 215,vI 0,vR 457,vI 223,vI 0,vR 464,vI 231,vI 0,vR 472,vI 246,vI 0,vR 479,vI 260,vI 0,vR 486,vI 265,vI 0,vR 507,vI 274,vI 0,vR 531,vI 283,vI 0,vR 557,vI 287,vI 0,vR 562,vI 307,vI 0,vR 569,vI 315,vI 0,vR 597,vI 327,vI 0,vR 629]),
 (587,.mk (.type "type") none (.cls (.mk "Piece" [.type "object"] [vR 587,.type "object"] 586 "Piece" true [] [vR 621,vR 648] false none false)) #[none,none,some (.str "Piece" 936),some (.str "Piece" 944),some (.builtin "object.__new__"),some (.bool true)])]
abbrev aAs:=cK (rfl:pA 3 1=⟨_,_,_,_,_,_,_⟩)
abbrev aAv:=cL (rfl:pB 3 1=_::_)
abbrev aCQ:=cT (rfl:pS 3 1=⟨_,_,_,_,_⟩)
abbrev aAt:=cK (rfl:pA 8 0=⟨_,_,_,_,_,_,_⟩)
abbrev aAw:=cL (rfl:pB 8 0=_::_)
abbrev aCR:=cT (rfl:pS 8 0=⟨_,_,_,_,_⟩)
abbrev aAu:=cK (rfl:pA 9 0=⟨_,_,_,_,_,_,_⟩)
abbrev aAx:=cL (rfl:pB 9 0=_::_)
abbrev UG:=cK (rfl:pA 10 0=⟨_,_,_,_,_,_,_⟩)
abbrev VS:=cL (rfl:pB 10 0=_::_)
abbrev OX:=cT (rfl:pS 10 0=⟨_,_,_,_,_⟩)
abbrev UH:=cK (rfl:pA 11 0=⟨_,_,_,_,_,_,_⟩)
abbrev VT:=cL (rfl:pB 11 0=_::_)
abbrev ZW:=cT (rfl:pS 11 0=⟨_,_,_,_,_⟩)
abbrev UI:=cK (rfl:pA 16 1=⟨_,_,_,_,_,_,_⟩)
abbrev VU:=cL (rfl:pB 16 1=_::_)
abbrev ZX:=cT (rfl:pS 16 1=⟨_,_,_,_,_⟩)
abbrev UJ:=cK (rfl:pA 16 2=⟨_,_,_,_,_,_,_⟩)
abbrev VV:=cL (rfl:pB 16 2=_::_)
abbrev UK:=cK (rfl:pA 20 1=⟨_,_,_,_,_,_,_⟩)
abbrev VW:=cL (rfl:pB 20 1=_::_)
abbrev ZY:=cT (rfl:pS 20 1=⟨_,_,_,_,_⟩)
abbrev UL:=cK (rfl:pA 21 1=⟨_,_,_,_,_,_,_⟩)
abbrev VX:=cL (rfl:pB 21 1=_::_)
abbrev UM:=cK (rfl:pA 22 1=⟨_,_,_,_,_,_,_⟩)
abbrev VY:=cL (rfl:pB 22 1=_::_)
abbrev ZZ:=cT (rfl:pS 22 1=⟨_,_,_,_,_⟩)
abbrev UN:=cK (rfl:pA 23 1=⟨_,_,_,_,_,_,_⟩)
abbrev VZ:=cL (rfl:pB 23 1=_::_)
abbrev Z0:=cT (rfl:pS 23 1=⟨_,_,_,_,_⟩)
abbrev UO:=cK (rfl:pA 24 0=⟨_,_,_,_,_,_,_⟩)
abbrev V0:=cL (rfl:pB 24 0=_::_)
abbrev Z1:=cT (rfl:pS 24 0=⟨_,_,_,_,_⟩)
abbrev D3:=cK (rfl:pA 25 1=⟨_,_,_,_,_,_,_⟩)
abbrev EB:=cL (rfl:pB 25 1=_::_)
abbrev JT:=cT (rfl:pS 25 1=⟨_,_,_,_,_⟩)
abbrev UP:=cK (rfl:pA 25 2=⟨_,_,_,_,_,_,_⟩)
abbrev V1:=cL (rfl:pB 25 2=_::_)
abbrev UQ:=cK (rfl:pA 25 3=⟨_,_,_,_,_,_,_⟩)
abbrev V3:=cL (rfl:pB 25 3=_::_)
abbrev UR:=cK (rfl:pA 25 5=⟨_,_,_,_,_,_,_⟩)
abbrev V4:=cL (rfl:pB 25 5=_::_)
abbrev Z2:=cT (rfl:pS 25 5=⟨_,_,_,_,_⟩)
abbrev US:=cK (rfl:pA 25 6=⟨_,_,_,_,_,_,_⟩)
abbrev V5:=cL (rfl:pB 25 6=_::_)
abbrev Z3:=cT (rfl:pS 25 6=⟨_,_,_,_,_⟩)
abbrev UT:=cK (rfl:pA 26 0=⟨_,_,_,_,_,_,_⟩)
abbrev V6:=cL (rfl:pB 26 0=_::_)
abbrev Z4:=cT (rfl:pS 26 0=⟨_,_,_,_,_⟩)
abbrev UU:=cK (rfl:pA 27 1=⟨_,_,_,_,_,_,_⟩)
abbrev V7:=cL (rfl:pB 27 1=_::_)
abbrev Z5:=cT (rfl:pS 27 1=⟨_,_,_,_,_⟩)
abbrev UV:=cK (rfl:pA 27 3=⟨_,_,_,_,_,_,_⟩)
abbrev V8:=cL (rfl:pB 27 3=_::_)
abbrev Z6:=cT (rfl:pS 27 3=⟨_,_,_,_,_⟩)
abbrev UW:=cK (rfl:pA 27 4=⟨_,_,_,_,_,_,_⟩)
abbrev V9:=cL (rfl:pB 27 4=_::_)
abbrev Z7:=cT (rfl:pS 27 4=⟨_,_,_,_,_⟩)
abbrev UX:=cK (rfl:pA 31 0=⟨_,_,_,_,_,_,_⟩)
abbrev WA:=cL (rfl:pB 31 0=_::_)
abbrev Z8:=cT (rfl:pS 31 0=⟨_,_,_,_,_⟩)
abbrev UY:=cK (rfl:pA 32 0=⟨_,_,_,_,_,_,_⟩)
abbrev WB:=cL (rfl:pB 32 0=_::_)
abbrev Z9:=cT (rfl:pS 32 0=⟨_,_,_,_,_⟩)
abbrev NM:=cK (rfl:pA 33 0=⟨_,_,_,_,_,_,_⟩)
abbrev NN:=cL (rfl:pB 33 0=_::_)
abbrev OY:=cT (rfl:pS 33 0=⟨_,_,_,_,_⟩)
abbrev UZ:=cK (rfl:pA 34 0=⟨_,_,_,_,_,_,_⟩)
abbrev WC:=cL (rfl:pB 34 0=_::_)
abbrev aA0:=cT (rfl:pS 34 0=⟨_,_,_,_,_⟩)
abbrev U0:=cK (rfl:pA 36 1=⟨_,_,_,_,_,_,_⟩)
abbrev WD:=cL (rfl:pB 36 1=_::_)
abbrev U1:=cK (rfl:pA 37 1=⟨_,_,_,_,_,_,_⟩)
abbrev WE:=cL (rfl:pB 37 1=_::_)
abbrev aA1:=cT (rfl:pS 37 1=⟨_,_,_,_,_⟩)
abbrev U2:=cK (rfl:pA 38 1=⟨_,_,_,_,_,_,_⟩)
abbrev WF:=cL (rfl:pB 38 1=_::_)
abbrev aA2:=cT (rfl:pS 38 1=⟨_,_,_,_,_⟩)
abbrev U3:=cK (rfl:pA 40 0=⟨_,_,_,_,_,_,_⟩)
abbrev WG:=cL (rfl:pB 40 0=_::_)
abbrev aA3:=cT (rfl:pS 40 0=⟨_,_,_,_,_⟩)
abbrev U4:=cK (rfl:pA 44 1=⟨_,_,_,_,_,_,_⟩)
abbrev WH:=cL (rfl:pB 44 1=_::_)
abbrev OZ:=cT (rfl:pS 44 1=⟨_,_,_,_,_⟩)
abbrev U5:=cK (rfl:pA 45 1=⟨_,_,_,_,_,_,_⟩)
abbrev WI:=cL (rfl:pB 45 1=_::_)
abbrev aA4:=cT (rfl:pS 45 1=⟨_,_,_,_,_⟩)
abbrev U6:=cK (rfl:pA 45 3=⟨_,_,_,_,_,_,_⟩)
abbrev WJ:=cL (rfl:pB 45 3=_::_)
abbrev aA5:=cT (rfl:pS 45 3=⟨_,_,_,_,_⟩)
abbrev U7:=cK (rfl:pA 50 1=⟨_,_,_,_,_,_,_⟩)
abbrev WK:=cL (rfl:pB 50 1=_::_)
abbrev U8:=cK (rfl:pA 50 3=⟨_,_,_,_,_,_,_⟩)
abbrev WL:=cL (rfl:pB 50 3=_::_)
abbrev U9:=cK (rfl:pA 50 4=⟨_,_,_,_,_,_,_⟩)
abbrev WM:=cL (rfl:pB 50 4=_::_)
abbrev aA6:=cT (rfl:pS 50 4=⟨_,_,_,_,_⟩)
abbrev VA:=cK (rfl:pA 51 1=⟨_,_,_,_,_,_,_⟩)
abbrev WN:=cL (rfl:pB 51 1=_::_)
abbrev vH:=cT (rfl:pS 51 1=⟨_,_,_,_,_⟩)
abbrev VB:=cK (rfl:pA 51 2=⟨_,_,_,_,_,_,_⟩)
abbrev WO:=cL (rfl:pB 51 2=_::_)
abbrev aA7:=cT (rfl:pS 51 2=⟨_,_,_,_,_⟩)
abbrev O0:=cT (rfl:pS 51 4=⟨_,_,_,_,_⟩)
abbrev VC:=cK (rfl:pA 51 5=⟨_,_,_,_,_,_,_⟩)
abbrev WP:=cL (rfl:pB 51 5=_::_)
abbrev aA8:=cT (rfl:pS 51 5=⟨_,_,_,_,_⟩)
abbrev VD:=cK (rfl:pA 52 0=⟨_,_,_,_,_,_,_⟩)
abbrev WQ:=cL (rfl:pB 52 0=_::_)
abbrev aA9:=cT (rfl:pS 52 0=⟨_,_,_,_,_⟩)
abbrev VE:=cK (rfl:pA 53 1=⟨_,_,_,_,_,_,_⟩)
abbrev WR:=cL (rfl:pB 53 1=_::_)
abbrev aAA:=cT (rfl:pS 53 1=⟨_,_,_,_,_⟩)
abbrev VF:=cK (rfl:pA 53 2=⟨_,_,_,_,_,_,_⟩)
abbrev WS:=cL (rfl:pB 53 2=_::_)
abbrev aAB:=cT (rfl:pS 53 2=⟨_,_,_,_,_⟩)
abbrev VG:=cK (rfl:pA 53 5=⟨_,_,_,_,_,_,_⟩)
abbrev WT:=cL (rfl:pB 53 5=_::_)
abbrev aAC:=cT (rfl:pS 53 5=⟨_,_,_,_,_⟩)
abbrev VH:=cK (rfl:pA 53 6=⟨_,_,_,_,_,_,_⟩)
abbrev WU:=cL (rfl:pB 53 6=_::_)
abbrev aAD:=cT (rfl:pS 53 6=⟨_,_,_,_,_⟩)
abbrev VI:=cK (rfl:pA 53 7=⟨_,_,_,_,_,_,_⟩)
abbrev WV:=cL (rfl:pB 53 7=_::_)
abbrev aAE:=cT (rfl:pS 53 7=⟨_,_,_,_,_⟩)
abbrev PN:=cK (rfl:pA 53 10=⟨_,_,_,_,_,_,_⟩)
abbrev PT:=cL (rfl:pB 53 10=_::_)
abbrev TF:=cT (rfl:pS 53 10=⟨_,_,_,_,_⟩)
abbrev PO:=cK (rfl:pA 53 11=⟨_,_,_,_,_,_,_⟩)
abbrev PU:=cL (rfl:pB 53 11=_::_)
abbrev TG:=cT (rfl:pS 53 11=⟨_,_,_,_,_⟩)
abbrev VJ:=cK (rfl:pA 55 0=⟨_,_,_,_,_,_,_⟩)
abbrev WW:=cL (rfl:pB 55 0=_::_)
abbrev aAF:=cT (rfl:pS 55 0=⟨_,_,_,_,_⟩)
abbrev VK:=cK (rfl:pA 56 0=⟨_,_,_,_,_,_,_⟩)
abbrev WX:=cL (rfl:pB 56 0=_::_)
abbrev aAG:=cT (rfl:pS 56 0=⟨_,_,_,_,_⟩)
abbrev VM:=cK (rfl:pA 57 0=⟨_,_,_,_,_,_,_⟩)
abbrev WY:=cL (rfl:pB 57 0=_::_)
abbrev aAH:=cT (rfl:pS 57 0=⟨_,_,_,_,_⟩)
abbrev VN:=cK (rfl:pA 58 0=⟨_,_,_,_,_,_,_⟩)
abbrev WZ:=cL (rfl:pB 58 0=_::_)
abbrev aAI:=cT (rfl:pS 58 0=⟨_,_,_,_,_⟩)
abbrev VO:=cK (rfl:pA 59 0=⟨_,_,_,_,_,_,_⟩)
abbrev W0:=cL (rfl:pB 59 0=_::_)
abbrev aAJ:=cT (rfl:pS 59 0=⟨_,_,_,_,_⟩)
abbrev VP:=cK (rfl:pA 60 0=⟨_,_,_,_,_,_,_⟩)
abbrev W1:=cL (rfl:pB 60 0=_::_)
abbrev aAK:=cT (rfl:pS 60 0=⟨_,_,_,_,_⟩)
abbrev VQ:=cK (rfl:pA 61 0=⟨_,_,_,_,_,_,_⟩)
abbrev W2:=cL (rfl:pB 61 0=_::_)
abbrev aAL:=cT (rfl:pS 61 0=⟨_,_,_,_,_⟩)
noncomputable def kGo:Nat->List Obj->List Nat->Frag
 |p,l,j::c=>match l.drop (j-p) with
  |o::r=>(j,o)::kGo (j+1) r c
  |[]=>[]
 |_,_,[]=>[]
noncomputable def kIx:List Nat:=[2,3,15,17,18,20,21,22,29,30,32,33,35,36,37,39,40,42,43,44,45,46,47,50,57,58,59,62,69,70,71,74,81,82,83,86,93,94,95,98,100,101,103,104,105,107,108,110,111,112,114,115,117,118,119,121,122,124,125,126,129,130,131,133,134,136,137,138,140,141,143,144,152,154,155,157,158,159,161,162,164,165,166,168,169,171,172,173,174,175,176,177,187,189,190,192,193,194,196,197,199,200,201,202,203,204,205,208,215,217,218,220,221,222,224,225,227,228,229,230,231,234,241,243,244,246,247,248,250,251,253,254,255,256,257,260,267,269,270,272,273,274,276,277,279,280,281,282,283,286,293,295,296,298,299,300,302,303,305,306,307,308,309,312,314,315,317,318,326,327,329,330,332,333,334,336,337,339,340,341,343,344,346,347,348,350,351,353,354,355,357,358,360,361,362,364,365,367,368,369,371,372,374,375,376,377,378,379,380,383,386,387,395,396,398,399,401,402,403,405,406,408,409,410,412,413,415,416,417,419,420,422,423,424,425,426,427,428,431,433,434,436,437,438,440,441,443,444,445,447,448,450,451,452,454,455,457,458,459,461,462,464,465,466,467,469,470,472,473,474,476,477,479,480,488,490,491,493,494,495,496,497,498,499,502,509,511,512,514,515,516,519,520,521,522,523,526,533,535,536,538,539,540,542,543,545,546,547,548,549,552,554,555,557,558,559,562,563,571,573,574,576,577,578,580,581,583,584,585,586,587,588,589,592,599,600,602,603,605,606,607,609,610,612,613,614,617,618,619,620,621,624,631,632,634,635,637,638,639,641,642,644,645,646,647,648,651,658,659,661,662,664,665,666,668,669,671,672,673,674,675,678,685,686,688,689,691,692,693,695,696,698,699,700,702,703,705,706,707,708,709,712,719,720,722,723,725,726,727,729,730,732,733,734,735,736,746,748,749,751,752,753,755,756,758,759,760,762,763,765,766,767,769,770,772,773,774,776,777,779,780,781,783,784,786,787,788,791,792,793,794,795,796,797,807,809,810,812,813,814,816,817,819,820,821,823,824,826,827,828,830,831,833,834,835,837,838,840,841,842,844,845,847,848,849,852,853,854,855,856,857,858,861,863,864,866,867,875,878,879,880,882,883,885,886,887,889,890,892,893,894,896,897,899,900,901,903,904,906,907,908,910,911,913,914,915,917,918,920,921,922,924,925,927,928,929,931,932,934,935,936,938,939,941,942,943,945,946,948,949,950,952,953,955,956,957,959,960,962,963,964,966,967,969,970,971,973,974,976,977,978,980,981,983,984,985,986,987,988,989,992,994,995,997,998,999,1001,1002,1004,1005,1006,1008,1009,1011,1012,1013,1016,1017,1018,1020,1021,1023,1024,1025,1027,1028,1030,1031,1032,1035,1036]
def K (P:Params):Frag:=kGo 0 (nM P) kIx
noncomputable abbrev pw:Program:=PySem.Challenge.pw_pb0429_01
def env0:Env:={scope:=pw.main.scope,locals:=mainNs,globals:=mainNs,cells:=[],code:=.ref 13,frame:=some 14}
def bE:List Stmt:=behindTheImports pw
def cE:Code:=.body bE env0
def aAX:List Stmt:=pw.main.body.take 24
def aAY:List Stmt:=(pw.main.body.drop 24).take 23
def aAZ:List Stmt:=pw.main.body.drop 47
theorem v5:bE=aAX++(aAY++(aAZ++[])):=by kernel_rfl
noncomputable abbrev g0:Array GenState:=.mk []
noncomputable abbrev P0:Pos:=⟨0,0,0,0⟩
noncomputable abbrev P1:Pos:=⟨109,0,122,20⟩
noncomputable abbrev P2:Pos:=⟨327,0,335,49⟩
noncomputable abbrev P3:Pos:=⟨635,0,661,127⟩
noncomputable abbrev st0 (w:World) (os:OsState):SharedT:=⟨j6 11 (OM w.params),15,{},g0,{},187,os⟩
abbrev st1 (w:World) (os:OsState):SharedT:=⟨j6 11 (ZF w.params),312,{},g0,{},594,os⟩
abbrev st2 (w:World) (os:OsState):SharedT:=⟨j6 11 (ZG w.params),651,{},g0,{},1050,os⟩
abbrev st3 (w:World) (os:OsState):SharedT:=⟨j6 11 (nM w.params),1037,{},g0,{},1583,os⟩
abbrev NG:String->Option Builtin:=PySem.W.Fast.tw14364793385576792824
abbrev M3:=PySem.W.Fast.tw10110043849684766642
theorem q1:∀w:World,(λos=>M3 NG pw w 11 (some (.ref 6)) 1 3063 (st0 w os) (piecesOf aAX env0 cE P0 [topFrame P0]))=λos=>some (.next,st1 w os,cE,P1):=by intro w;kernel_rfl
theorem q2:∀w:World,(λos=>M3 NG pw w 11 (some (.ref 6)) 1 2744 (st1 w os) (piecesOf aAY env0 cE P1 [topFrame P0]))=λos=>some (.next,st2 w os,cE,P2):=by intro w;kernel_rfl
theorem q3:∀w:World,(λos=>M3 NG pw w 11 (some (.ref 6)) 1 2693 (st2 w os) (piecesOf aAZ env0 cE P2 [topFrame P0]))=λos=>some (.next,st3 w os,cE,P3):=by intro w;kernel_rfl
theorem QT {n:Nat} {s s':SharedT} {t:Thread} {r:Code} {p:Pos} (h:M3 NG pw w 11 (some (.ref 6)) 1 n s t=some (.next,s',r,p)):
  segRun treeTable pw w 11 (some (.ref 6)) 1 n s.abs t=some (.next,s'.abs,r,p):=by
 refine segRun_of ?_
 rw[PySem.W.Fast.te10110043849684766642,PySem.W.Fast.te14364793385576792824]
 exact h
theorem QM:∀w:World,((boot_heap w.params).isNs mainGlobals&&g0.size==0,(boot_heap w.params).objs.size,(boot_heap w.params).nsMap mainGlobals "__annotations__")=(true,11,some (.ref 6)):=by intro w;kernel_rfl
def XQ (P:Params):Heap:=⟨⟨OM P⟩,{}⟩
def kO (P:Params):Heap:=⟨⟨nM P⟩,{}⟩
abbrev sA (w:World) (os:OsState):Shared:=⟨XQ w.params,g0,{},187,os⟩
abbrev sZ (w:World) (os:OsState):Shared:=⟨kO w.params,g0,{},1583,os⟩
theorem XN:∀w:World,(λos=>topGo treeTable pw w 11 (some (.ref 6)) 12 ⟨boot_heap w.params,g0,boot_drawn,boot_toks,os⟩ (topStub pw))=λos=>some (sA w os,⟨denote treeTable cE,cE,P0,[topFrame P0]⟩):=by intro w;kernel_rfl
theorem LU:∀w:World,(λos=>segRun treeTable pw w 11 (some (.ref 6)) 1 1 (sA w os) (blockOf bE env0 cE P0 [topFrame P0]))=λos=>some (.next,(st0 w os).abs,cE,P0):=by intro w;kernel_rfl
theorem XM:∀w:World,(λos=>topRun treeTable pw w 11 (some (.ref 6)) 2 (st3 w os).abs ⟨doneF .next,cE,P3,[topFrame P0]⟩)=λos=>some (sZ w os):=by intro w;kernel_rfl
theorem XO (w:World) (os:OsState):topRun treeTable pw w 11 (some (.ref 6)) (12+(1+(3063+(2744+(2693+2))))) ⟨boot_heap w.params,g0,boot_drawn,boot_toks,os⟩ (topStub pw)=some (sZ w os):=by
 refine go_top (congrFun (XN w) os) (piece_block (congrFun (LU w) os) ?_)
 refine(congrArg (λl=>topRun treeTable pw w 11 (some (.ref 6)) (3063+(2744+(2693+2))) (st0 w os).abs (restOf l env0 cE P0 [topFrame P0])) v5).trans ?_
 exact piece_app (QT (congrFun (q1 w) os)) (piece_app (QT (congrFun (q2 w) os)) (piece_app (QT (congrFun (q3 w) os)) (congrFun (XM w) os)))
def qV:Program:={pw with main:={pw.main with body:=[TV 61]}}
noncomputable def mX:List Str:=[.ofString "_wall",.ofString "MOST_LEB",.ofString "MintError",.ofString "ReadError",.ofString "EncodeError",.ofString "SymbolError",.ofString "LayoutError",.ofString "mask",.ofString "wrap",.ofString "fits_either",.ofString "little",.ofString "leb_octets",.ofString "uleb",.ofString "sleb",.ofString "Fixup",.ofString "MOST_SHIFT",.ofString "Expr",.ofString "Number",.ofString "Symbol",.ofString "Unary",.ofString "Binary",.ofString "left_spine",.ofString "Affine",.ofString "affine_of",.ofString "Scope",.ofString "quotient",.ofString "shifted",.ofString "reckoned",.ofString "combined",.ofString "turned",.ofString "evaluate",.ofString "names_in",.ofString "Statement",.ofString "Deed",.ofString "Equate",.ofString "told_argument",.ofString "solve_equates",.ofString "MOST_OCTETS",.ofString "MOST_STEP",.ofString "Piece",.ofString "Octets",.ofString "Align",.ofString "Org",.ofString "Space",.ofString "Leb",.ofString "Section",.ofString "Program",.ofString "data_width",.ofString "Collector",.ofString "_law_next",.ofString "_law_number",.ofString "_law_part",.ofString "_law_octets",.ofString "_law_due",.ofString "_law_word"]
abbrev Xt (s:Shared):Bool:=xlAt qV [] s&&recOk [] s
theorem LV:∀w:World,(λos=>staticsOk (importedModules pw.main.body) (boot_heap w.params) (kO w.params)&&namesBound pw (kO w.params)&&gensDone (sZ w os)&&laidKept (boot_heap w.params) (kO w.params))=λ_=>true:=by intro w;kernel_rfl
theorem LW:∀w:World,(λos=>openSeen qV mX (importedModules pw.main.body) Xt true (sZ w os))=λ_=>openGood qV mX:=by intro w;kernel_rfl
theorem QL:∀w:World,(fencedOpening treeTable pw w 17120).map (λs=>(s.heap,s.gens,s.drawn,s.toks))=some (boot_heap w.params,g0,boot_drawn,boot_toks):=
 boot_open (by kernel_rfl) (by kernel_rfl) (λs=>by kernel_rfl)
theorem left:LeftO pw qV mX Xt Shared.heap (λw=>kO w.params) 17120:=
 LeftO.of_pieces (H₀:=boot_heap) (H₁:=kO) (gs₀:=g0) (gs₁:=g0) (d₀:=boot_drawn) (d₁:={}) (k₀:=boot_toks) (k₁:=1583) (m₀:=11) (ann:=some (.ref 6)) QL QM XO (by kernel_rfl)
  λw=>funext λos=>Prod.ext (congrFun (LV w) os) (Prod.ext (congrFun (LW w) os) rfl)
theorem GC (P:Params):kO P=absHeap (j6 11 (nM P)) 1037 {}:=by kernel_rfl
theorem PK (P:Params):(K P).map (λp=>(j6 11 (nM P)).get p.1)=(K P).map (λp=>some p.2):=by kernel_rfl
theorem K7 (P:Params):(K P).map (λp=>(Nat.blt p.1 1037,alive p.2))=(K P).map (λp=>(true,some p.2)):=by kernel_rfl
theorem qB {a:Addr} {o:Obj}:∀{l:Frag},l.lookup a=some o->(a,o)∈l
 |[],h=>nomatch h
 |(b,o')::l,h=>by
  rw[List.lookup_cons] at h
  cases e:a==b with
  |true=>rw[e] at h;cases h;rw[eq_of_beq e];exact .head _
  |false=>rw[e] at h;exact .tail _ (qB h)
theorem aAr (w:World):(K w.params).In (kO w.params):=λa o h=>by
 have hm:=qB h
 have h1:=List.map_inj_left.mp (PK w.params) _ hm
 have h2:=List.map_inj_left.mp (K7 w.params) _ hm
 have h3:=congrArg Prod.fst h2
 have h4:=congrArg Prod.snd h2
 rw[GC,abs_get (bA h3) h1]
 exact h4
end
theorem aCb:PySem.Challenge.rw_pb0429_01.wellSaid=true:=by kernel_rfl
def pP (i j:Nat):Pos:=match fAt i j with
 | .FunctionDef _ _ _ _ _ _ _ _ _ p=>p
 |_=>default
def lawD:DefRec:=⟨"law",VQ,W2,aAL,pP 61 0⟩
noncomputable abbrev rw1:OpenLaw:=PySem.Challenge.rw_pb0429_01
theorem top (h:WalkO qV mX (XL qV []) (InK K) rw1.row.toRowW lawD [] (λf vs=>PySem.call f vs)):rw1.Holds:=
 holds_law aCb λk1=>holds_open (r:=rw1.row) (q:=qV) (loose:=mX) (Xt:=Xt) (XP:=XL qV []) (Yf:=Shared.heap) (Ya:=λw=>kO w.params) (YP:=InK K) (N:=17120) (d:=lawD) (kwd:=[])
  left (λw s e=>by rw[show s.heap=kO w.params from e];exact aAr w) InK.keeps
  (λs e=>xl_of s (Bool.and_eq_true_iff.mp e).1) XL.keeps (by kernel_rfl) (by kernel_rfl) (by kernel_rfl) (λs e=>recFacts_of (Bool.and_eq_true_iff.mp e).2) rfl k1 (by kernel_rfl) ⟨rfl,rfl,rfl,rfl,rfl,by kernel_rfl⟩ ⟨[.list []],by decide +kernel,by decide +kernel⟩ h
end Mine
end
section
open PySem PySem.W PyProof.Rows PySem.Calls
namespace Mine
theorem pC {D:Addr}:∀{l:List (Addr×Obj)},LCg.Off1 D l->∀p∈l,p.1≠D
 |[],_,_,h=>nomatch h
 |_::_,⟨a,_⟩,_,.head _=>a
 |_::_,⟨_,b⟩,p,.tail _ h=>pC b p h
theorem rV {α:Type} {l:List α} {i:Nat} {a:α} (h:l[i]? =some a):i<l.length:=(List.getElem?_eq_some_iff.mp h).elim λh _=>h
theorem bcs {b:Bool} {P:Prop} (h0:b=false->P) (h1:b=true->P):P:=by
 cases b
 ·exact h0 rfl
 ·exact h1 rfl
theorem XT {α:Type} {l:List α} {P:Prop} (h0:l=[]->P) (h1:∀a t,l=a::t->P):P:=by
 cases l
 ·exact h0 rfl
 ·exact h1 _ _ rfl
theorem rJ {a b:Bool} (h:(a&&b)=true):a=true/\b=true:=(bG _ _).mp h
theorem oS {α:Type} {a b:α} (h:some a=some b):a=b:=bS h
theorem pI {α β:Type} {a c:α} {b d:β} {R:Prop} (h:(a,b)=(c,d)) (k:a=c->b=d->R):R:=k (congrArg Prod.fst h) (congrArg Prod.snd h)
theorem kX {α β:Type} {a c:α} {b d:β} {R:Prop} (h:some (a,b)=some (c,d)) (k:a=c->b=d->R):R:=pI (oS h) k
theorem okP {ε α β:Type} {a c:α} {b d:β} {R:Prop} (h:(Except.ok (a,b):Except ε (α×β))=.ok (c,d)) (k:a=c->b=d->R):R:=pI (Except.ok.inj h) k
theorem xA {α:Type} {a:α} {l:List α} {R:Prop} (h:[]=a::l):R:=nomatch h
theorem UE {ε α:Type} {a:ε} {b:α} {R:Prop} (h:Except.error a=Except.ok b):R:=nomatch h
section
variable {R:Prop}
theorem q56 {A B C D E:Sort _} {P0 P1 P2 P3 P4 P5:A->B->C->D->E->Prop} (h:∃a b c d e,P0 a b c d e/\P1 a b c d e/\P2 a b c d e/\P3 a b c d e/\P4 a b c d e/\P5 a b c d e) (k:∀a b c d e,P0 a b c d e->P1 a b c d e->P2 a b c d e->P3 a b c d e->P4 a b c d e->P5 a b c d e->R):R:=h.elim λa h=>h.elim λb h=>h.elim λc h=>h.elim λd h=>h.elim λe h=>k a b c d e h.1 h.2.1 h.2.2.1 h.2.2.2.1 h.2.2.2.2.1 h.2.2.2.2.2
theorem q57 {A B C D E:Sort _} {P0 P1 P2 P3 P4 P5 P6:A->B->C->D->E->Prop} (h:∃a b c d e,P0 a b c d e/\P1 a b c d e/\P2 a b c d e/\P3 a b c d e/\P4 a b c d e/\P5 a b c d e/\P6 a b c d e) (k:∀a b c d e,P0 a b c d e->P1 a b c d e->P2 a b c d e->P3 a b c d e->P4 a b c d e->P5 a b c d e->P6 a b c d e->R):R:=h.elim λa h=>h.elim λb h=>h.elim λc h=>h.elim λd h=>h.elim λe h=>k a b c d e h.1 h.2.1 h.2.2.1 h.2.2.2.1 h.2.2.2.2.1 h.2.2.2.2.2.1 h.2.2.2.2.2.2
theorem jN {P0 P1 P2:Prop} (h:P0/\P1/\P2) (k:P0->P1->P2->R):R:=k h.1 h.2.1 h.2.2
theorem zO {P0 P1 P2 P3:Prop} (h:P0/\P1/\P2/\P3) (k:P0->P1->P2->P3->R):R:=k h.1 h.2.1 h.2.2.1 h.2.2.2
theorem q05 {P0 P1 P2 P3 P4:Prop} (h:P0/\P1/\P2/\P3/\P4) (k:P0->P1->P2->P3->P4->R):R:=k h.1 h.2.1 h.2.2.1 h.2.2.2.1 h.2.2.2.2
theorem q06 {P0 P1 P2 P3 P4 P5:Prop} (h:P0/\P1/\P2/\P3/\P4/\P5) (k:P0->P1->P2->P3->P4->P5->R):R:=k h.1 h.2.1 h.2.2.1 h.2.2.2.1 h.2.2.2.2.1 h.2.2.2.2.2
theorem ZP {P0 P1 P2 P3 P4 P5 P6 P7 P8 P9 P10 P11 P12:Prop} (h:P0/\P1/\P2/\P3/\P4/\P5/\P6/\P7/\P8/\P9/\P10/\P11/\P12) (k:P0->P1->P2->P3->P4->P5->P6->P7->P8->P9->P10->P11->P12->R):R:=k h.1 h.2.1 h.2.2.1 h.2.2.2.1 h.2.2.2.2.1 h.2.2.2.2.2.1 h.2.2.2.2.2.2.1 h.2.2.2.2.2.2.2.1 h.2.2.2.2.2.2.2.2.1 h.2.2.2.2.2.2.2.2.2.1 h.2.2.2.2.2.2.2.2.2.2.1 h.2.2.2.2.2.2.2.2.2.2.2.1 h.2.2.2.2.2.2.2.2.2.2.2.2
theorem b7 {A:Sort _} {P0 P1:A->Prop} (h:∃a,P0 a/\P1 a) (k:∀a,P0 a->P1 a->R):R:=h.elim λa h=>k a h.1 h.2
theorem qM {A:Sort _} {P0 P1 P2:A->Prop} (h:∃a,P0 a/\P1 a/\P2 a) (k:∀a,P0 a->P1 a->P2 a->R):R:=h.elim λa h=>k a h.1 h.2.1 h.2.2
theorem DU {A:Sort _} {P0 P1 P2 P3:A->Prop} (h:∃a,P0 a/\P1 a/\P2 a/\P3 a) (k:∀a,P0 a->P1 a->P2 a->P3 a->R):R:=h.elim λa h=>k a h.1 h.2.1 h.2.2.1 h.2.2.2
theorem SC {A:Sort _} {P0 P1 P2 P3 P4:A->Prop} (h:∃a,P0 a/\P1 a/\P2 a/\P3 a/\P4 a) (k:∀a,P0 a->P1 a->P2 a->P3 a->P4 a->R):R:=h.elim λa h=>k a h.1 h.2.1 h.2.2.1 h.2.2.2.1 h.2.2.2.2
theorem HZ {A:Sort _} {P0 P1 P2 P3 P4 P5:A->Prop} (h:∃a,P0 a/\P1 a/\P2 a/\P3 a/\P4 a/\P5 a) (k:∀a,P0 a->P1 a->P2 a->P3 a->P4 a->P5 a->R):R:=h.elim λa h=>k a h.1 h.2.1 h.2.2.1 h.2.2.2.1 h.2.2.2.2.1 h.2.2.2.2.2
theorem q21 {A B:Sort _} {P0:A->B->Prop} (h:∃a b,P0 a b) (k:∀a b,P0 a b->R):R:=h.elim λa h=>h.elim λb h=>k a b h
theorem iJ {A B:Sort _} {P0 P1:A->B->Prop} (h:∃a b,P0 a b/\P1 a b) (k:∀a b,P0 a b->P1 a b->R):R:=h.elim λa h=>h.elim λb h=>k a b h.1 h.2
theorem fP {A B:Sort _} {P0 P1 P2:A->B->Prop} (h:∃a b,P0 a b/\P1 a b/\P2 a b) (k:∀a b,P0 a b->P1 a b->P2 a b->R):R:=h.elim λa h=>h.elim λb h=>k a b h.1 h.2.1 h.2.2
theorem kS {A B:Sort _} {P0 P1 P2 P3:A->B->Prop} (h:∃a b,P0 a b/\P1 a b/\P2 a b/\P3 a b) (k:∀a b,P0 a b->P1 a b->P2 a b->P3 a b->R):R:=h.elim λa h=>h.elim λb h=>k a b h.1 h.2.1 h.2.2.1 h.2.2.2
theorem OV {A B:Sort _} {P0 P1 P2 P3 P4:A->B->Prop} (h:∃a b,P0 a b/\P1 a b/\P2 a b/\P3 a b/\P4 a b) (k:∀a b,P0 a b->P1 a b->P2 a b->P3 a b->P4 a b->R):R:=h.elim λa h=>h.elim λb h=>k a b h.1 h.2.1 h.2.2.1 h.2.2.2.1 h.2.2.2.2
theorem OW {A B:Sort _} {P0 P1 P2 P3 P4 P5 P6 P7 P8 P9 P10 P11 P12:A->B->Prop} (h:∃a b,P0 a b/\P1 a b/\P2 a b/\P3 a b/\P4 a b/\P5 a b/\P6 a b/\P7 a b/\P8 a b/\P9 a b/\P10 a b/\P11 a b/\P12 a b) (k:∀a b,P0 a b->P1 a b->P2 a b->P3 a b->P4 a b->P5 a b->P6 a b->P7 a b->P8 a b->P9 a b->P10 a b->P11 a b->P12 a b->R):R:=h.elim λa h=>h.elim λb h=>k a b h.1 h.2.1 h.2.2.1 h.2.2.2.1 h.2.2.2.2.1 h.2.2.2.2.2.1 h.2.2.2.2.2.2.1 h.2.2.2.2.2.2.2.1 h.2.2.2.2.2.2.2.2.1 h.2.2.2.2.2.2.2.2.2.1 h.2.2.2.2.2.2.2.2.2.2.1 h.2.2.2.2.2.2.2.2.2.2.2.1 h.2.2.2.2.2.2.2.2.2.2.2.2
theorem q31 {A B C:Sort _} {P0:A->B->C->Prop} (h:∃a b c,P0 a b c) (k:∀a b c,P0 a b c->R):R:=h.elim λa h=>h.elim λb h=>h.elim λc h=>k a b c h
theorem q32 {A B C:Sort _} {P0 P1:A->B->C->Prop} (h:∃a b c,P0 a b c/\P1 a b c) (k:∀a b c,P0 a b c->P1 a b c->R):R:=h.elim λa h=>h.elim λb h=>h.elim λc h=>k a b c h.1 h.2
theorem ZR {A B C:Sort _} {P0 P1 P2:A->B->C->Prop} (h:∃a b c,P0 a b c/\P1 a b c/\P2 a b c) (k:∀a b c,P0 a b c->P1 a b c->P2 a b c->R):R:=h.elim λa h=>h.elim λb h=>h.elim λc h=>k a b c h.1 h.2.1 h.2.2
theorem q34 {A B C:Sort _} {P0 P1 P2 P3:A->B->C->Prop} (h:∃a b c,P0 a b c/\P1 a b c/\P2 a b c/\P3 a b c) (k:∀a b c,P0 a b c->P1 a b c->P2 a b c->P3 a b c->R):R:=h.elim λa h=>h.elim λb h=>h.elim λc h=>k a b c h.1 h.2.1 h.2.2.1 h.2.2.2
theorem SD {A B C:Sort _} {P0 P1 P2 P3 P4:A->B->C->Prop} (h:∃a b c,P0 a b c/\P1 a b c/\P2 a b c/\P3 a b c/\P4 a b c) (k:∀a b c,P0 a b c->P1 a b c->P2 a b c->P3 a b c->P4 a b c->R):R:=h.elim λa h=>h.elim λb h=>h.elim λc h=>k a b c h.1 h.2.1 h.2.2.1 h.2.2.2.1 h.2.2.2.2
theorem q41 {A B C D:Sort _} {P0:A->B->C->D->Prop} (h:∃a b c d,P0 a b c d) (k:∀a b c d,P0 a b c d->R):R:=h.elim λa h=>h.elim λb h=>h.elim λc h=>h.elim λd h=>k a b c d h
theorem q44 {A B C D:Sort _} {P0 P1 P2 P3:A->B->C->D->Prop} (h:∃a b c d,P0 a b c d/\P1 a b c d/\P2 a b c d/\P3 a b c d) (k:∀a b c d,P0 a b c d->P1 a b c d->P2 a b c d->P3 a b c d->R):R:=h.elim λa h=>h.elim λb h=>h.elim λc h=>h.elim λd h=>k a b c d h.1 h.2.1 h.2.2.1 h.2.2.2
theorem q45 {A B C D:Sort _} {P0 P1 P2 P3 P4:A->B->C->D->Prop} (h:∃a b c d,P0 a b c d/\P1 a b c d/\P2 a b c d/\P3 a b c d/\P4 a b c d) (k:∀a b c d,P0 a b c d->P1 a b c d->P2 a b c d->P3 a b c d->P4 a b c d->R):R:=h.elim λa h=>h.elim λb h=>h.elim λc h=>h.elim λd h=>k a b c d h.1 h.2.1 h.2.2.1 h.2.2.2.1 h.2.2.2.2
theorem q51 {A B C D E:Sort _} {P0:A->B->C->D->E->Prop} (h:∃a b c d e,P0 a b c d e) (k:∀a b c d e,P0 a b c d e->R):R:=h.elim λa h=>h.elim λb h=>h.elim λc h=>h.elim λd h=>h.elim λe h=>k a b c d e h
theorem q58 {A B C D E:Sort _} {P0 P1 P2 P3 P4 P5 P6 P7:A->B->C->D->E->Prop} (h:∃a b c d e,P0 a b c d e/\P1 a b c d e/\P2 a b c d e/\P3 a b c d e/\P4 a b c d e/\P5 a b c d e/\P6 a b c d e/\P7 a b c d e) (k:∀a b c d e,P0 a b c d e->P1 a b c d e->P2 a b c d e->P3 a b c d e->P4 a b c d e->P5 a b c d e->P6 a b c d e->P7 a b c d e->R):R:=h.elim λa h=>h.elim λb h=>h.elim λc h=>h.elim λd h=>h.elim λe h=>k a b c d e h.1 h.2.1 h.2.2.1 h.2.2.2.1 h.2.2.2.2.1 h.2.2.2.2.2.1 h.2.2.2.2.2.2.1 h.2.2.2.2.2.2.2
theorem q66 {A B C D E F:Sort _} {P0 P1 P2 P3 P4 P5:A->B->C->D->E->F->Prop} (h:∃a b c d e f,P0 a b c d e f/\P1 a b c d e f/\P2 a b c d e f/\P3 a b c d e f/\P4 a b c d e f/\P5 a b c d e f) (k:∀a b c d e f,P0 a b c d e f->P1 a b c d e f->P2 a b c d e f->P3 a b c d e f->P4 a b c d e f->P5 a b c d e f->R):R:=h.elim λa h=>h.elim λb h=>h.elim λc h=>h.elim λd h=>h.elim λe h=>h.elim λf h=>k a b c d e f h.1 h.2.1 h.2.2.1 h.2.2.2.1 h.2.2.2.2.1 h.2.2.2.2.2
theorem ZQ {A B C D E F G I1 J L1 O P:Sort _} {P0 P1 P2:A->B->C->D->E->F->G->I1->J->L1->O->P->Prop} (h:∃a b c d e f g i j l o p,P0 a b c d e f g i j l o p/\P1 a b c d e f g i j l o p/\P2 a b c d e f g i j l o p) (k:∀a b c d e f g i j l o p,P0 a b c d e f g i j l o p->P1 a b c d e f g i j l o p->P2 a b c d e f g i j l o p->R):R:=h.elim λa h=>h.elim λb h=>h.elim λc h=>h.elim λd h=>h.elim λe h=>h.elim λf h=>h.elim λg h=>h.elim λi h=>h.elim λj h=>h.elim λl h=>h.elim λo h=>h.elim λp h=>k a b c d e f g i j l o p h.1 h.2.1 h.2.2
end
inductive SV where
 |none|bool (b:Bool)|int (n:Int)|str (s:Str)|bytes (n:Nat) (b:Array UInt8)|obj (i:Nat)|lit (v:Value)|cell (i:Nat)
inductive SO where
 |inst (C:Addr) (d:Nat)|ud (es:List (Str×SV))|dict (es:List (Str×SV))|list (vs:List SV)|listB (n:Nat) (vs:List SV)|tup (vs:List SV)|raw (o:Obj)|fz|pud (es:List (Str×SV))|cell (v:Option SV)
abbrev Loc:=List (Str×SV)
theorem d9 {P:Prop} (e:false=true):P:=nomatch e
theorem b5 {α:Type} {c:α} {P:Prop} (e:none=some c):P:=nomatch e
noncomputable def xO:List Nat->List Nat->Bool
 |[],[]=>true
 |a::r,b::t=>match Nat.beq a b with
  |true=>xO r t
  |false=>false
 |_,_=>false
def seq (a b:Str):Bool:=xO a.cps.toList b.cps.toList
theorem vL:∀{a b:List Nat},xO a b=true<->a=b
 |[],[]=>by simp[xO]
 |[],_::_=>by simp[xO]
 |_::_,[]=>by simp[xO]
 |a::r,b::t=>by
  unfold xO
  cases h:Nat.beq a b with
  |true=>
   have:a=b:=bg h
   simp[this,vL]
  |false=>
   have:a≠b:=λe=>by subst e;simp[Nat.beq_refl] at h
   simp[this]
theorem seq_iff {a b:Str}:seq a b=true<->a=b:=by
 unfold seq
 rw[vL]
 constructor
 ·intro h
  cases a;cases b
  simp only at h
  congr
  exact Array.ext' h
 ·rintro rfl;rfl
theorem dI {a b:Str}:seq a b=true->a=b:=seq_iff.mp
theorem gB (a b:Str):seq a b=(a==b):=by
 cases h:(a==b) with
 |true=>exact seq_iff.mpr (by simpa using h)
 |false=>
  cases e:seq a b with
  |false=>rfl
  |true=>exact absurd (seq_iff.mp e) (by simpa using h)
noncomputable def lk {α:Type}:List (Str×α)->Str->Option α
 |[],_=>none
 |p::r,x=>match seq p.1 x with
  |true=>some p.2
  |false=>lk r x
noncomputable def jG {α:Type}:List (Str×α)->Str->α->List (Str×α)
 |[],x,v=>[(x,v)]
 |p::r,x,v=>match seq p.1 x with
  |true=>(p.1,v)::r
  |false=>p::jG r x v
theorem p8 {α:Type} (l:List (Str×α)) (x:Str) (v:α) (y:Str):lk (jG l x v) y=if y=x then some v else lk l y:=by
 induction l with
 |nil=>
  unfold jG lk
  cases h:seq x y with
  |true=>simp[dI h]
  |false=>
   have:y≠x:=λe=>by subst e;rw[seq_iff.mpr rfl] at h;exact d9 h.symm
   simp[this,lk]
 |cons p r ih=>
  unfold jG
  cases h:seq p.1 x with
  |true=>
   have e:=dI h
   simp only[lk]
   cases h2:seq p.1 y with
   |true=>simp[<-dI h2,e]
   |false=>
    have:y≠x:=λq=>by(rw[<-q] at ih;rw[<-q] at h;rw[<-q] at e);rw[h] at h2;exact d9 h2.symm
    simp[this]
  |false=>
   simp only[lk]
   cases h2:seq p.1 y with
   |true=>
    have:y≠x:=λq=>by(rw[<-q] at ih;rw[<-q] at h);rw[h] at h2;exact d9 h2
    simp[this]
   |false=>exact ih
def RV (ρ:List Addr):SV->Value->Prop
 | .none,v=>v=.none
 | .bool b,v=>v=.bool b
 | .int n,v=>∃t,v=.int n t
 | .str s,v=>∃t,v=.str s t
 | .bytes n b,v=>(∃t,v=.bytes b t)/\b.size<=n
 | .obj i,v=>∃a,ρ[i]? =some a/\v=.ref a
 | .lit u,v=>v=u
 | .cell _,_=>False
noncomputable def All2 {α β:Type} (P:α->β->Prop):List α->List β->Prop
 |[],[]=>True
 |x::r,v::t=>P x v/\All2 P r t
 |_,_=>False
section
variable {α β:Type} {P:α->β->Prop}
theorem All2.nl {u:List β} (h:All2 P [] u):u=[]:=by
 cases u with
 |nil=>rfl
 |cons=>exact h.elim
theorem All2.cs {R:Prop} {x:α} {r:List α} {u:List β} (h:All2 P (x::r) u) (k:∀y t,u=y::t->P x y->All2 P r t->R):R:=by
 cases u with
 |nil=>exact h.elim
 |cons y t=>exact k y t rfl h.1 h.2
theorem All2.ind {M:List α->List β->Prop} {l:List α}:∀{m:List β},All2 P l m->M [] []->(∀x y r t,P x y->All2 P r t->M r t->M (x::r) (y::t))->M l m:=by
 induction l with
 |nil=>intro m h n _;rw[h.nl];exact n
 |cons x r ih=>intro m h n c;exact h.cs λy t e a b=>e▸c x y r t a b (ih b n c)
theorem All2.map {γ δ:Type} {Q:γ->δ->Prop} {f:α->γ} {g:β->δ} (hf:∀x y,P x y->Q (f x) (g y)) {l:List α} {m:List β} (h:All2 P l m):All2 Q (l.map f) (m.map g):=All2.ind (M:=λl m=>All2 Q (l.map f) (m.map g)) h trivial λ_ _ _ _ a _ i=>⟨hf _ _ a,i⟩
theorem All2.mapl {γ:Type} {Q:γ->β->Prop} {f:α->γ} (hf:∀x y,P x y->Q (f x) y) {l:List α} {m:List β} (h:All2 P l m):All2 Q (l.map f) m:=All2.ind (M:=λl m=>All2 Q (l.map f) m) h trivial λ_ _ _ _ a _ i=>⟨hf _ _ a,i⟩
theorem All2.mono {Q:α->β->Prop} (hf:∀x y,P x y->Q x y) {l:List α} {m:List β} (h:All2 P l m):All2 Q l m:=All2.ind (M:=All2 Q) h trivial λ_ _ _ _ a _ i=>⟨hf _ _ a,i⟩
theorem All2.len {l:List α} {m:List β} (h:All2 P l m):m.length=l.length:=All2.ind (M:=λl m=>m.length=l.length) h rfl λ_ _ _ _ _ _ i=>congrArg (· +1) i
theorem All2.app {a b:List α} {c d:List β} (h:All2 P a c) (k:All2 P b d):All2 P (a++b) (c++d):=All2.ind (M:=λa c=>All2 P (a++b) (c++d)) h k λ_ _ _ _ a _ i=>And.intro a i
theorem All2.rev {a:List α} {c:List β} (h:All2 P a c):All2 P a.reverse c.reverse:=All2.ind (M:=λa c=>All2 P a.reverse c.reverse) h trivial λ_ _ _ _ a _ i=>by
 rw[List.reverse_cons,List.reverse_cons]
 exact i.app ⟨a,trivial⟩
theorem All2.unmap {γ:Type} {Q:γ->β->Prop} {f:γ->α} {p:γ->Bool} (hf:∀x y,p x=true->P (f x) y->Q x y):∀{l:List γ} {m:List β},l.all p=true->All2 P (l.map f) m->All2 Q l m:=by
 intro l
 induction l with
 |nil=>intro m _ h;rw[All2.nl h];exact trivial
 |cons x r ih=>
  intro m o h
  rw[bh,bG] at o
  exact All2.cs h λy t e a b=>e▸⟨hf x y o.1 a,ih o.2 b⟩
end
abbrev RVs (ρ:List Addr):List SV->List Value->Prop:=All2 (RV ρ)
abbrev RE (P:Params) (ρ:List Addr):List (Str×SV)->List DictEntry->Prop:=All2 λx e=>∃tk u,e=⟨PyData.keyHash P x.1,.str x.1 tk,u⟩/\RV ρ x.2 u
abbrev RK (ρ:List Addr):List (Str×SV)->List (Str×Value)->Prop:=All2 λx e=>x.1=e.1/\RV ρ x.2 e.2
theorem RK.len {v:List (Str×SV)} {u:List (Str×Value)} (h:RK ρ v u):u.length=v.length:=All2.len h
def RO (w:World) (G:Addr->Obj) (ρ:List Addr) (a:Addr):SO->Obj->Prop
 | .inst C d,o=>∃a,ρ[d]? =some a/\o=instObj C a
 | .ud es,o=>∃kvs,RK ρ es kvs/\o.IsDictOf (PySem.strKind rw1.prog w) kvs/\(a==sysModules)=false
 | .dict es,o=>∃en,RE w.params ρ es en/\o=dictOf en es.length
 | .list vs,o=>∃ws n,RVs ρ vs ws/\o=listOf ws.toArray n
 | .listB k vs,o=>(∃ws n,RVs ρ vs ws/\o=listOf ws.toArray n)/\vs.length<=k
 | .tup vs,o=>∃ws n,RVs ρ vs ws/\o={cls:=.type "tuple",data:=.seq ws.toArray n}
 | .raw o',o=>o=o'
 | .fz,o=>o=G a
 | .pud es,o=>o=G a/\∃kvs,RK ρ es kvs/\o.IsDictOf (PySem.strKind rw1.prog w) kvs/\(a==sysModules)=false
 | .cell v,o=>match v with
  |none=>o.data=.cell none
  |some v=>∃u,o.data=.cell (some u)/\RV ρ v u
def Ext (ρ ρ':List Addr):Prop:=∃tl,ρ'=ρ++tl
theorem Ext.rfl':Ext ρ ρ:=⟨[],(bQ _).symm⟩
theorem Ext.trans {a b c:List Addr}:Ext a b->Ext b c->Ext a c:=by
 rintro⟨t,rfl⟩ ⟨u,rfl⟩
 exact⟨t++u,bB _ _ _⟩
theorem Ext.get {a b:List Addr} (x:Ext a b) {i:Nat} {v:Addr} (h:a[i]? =some v):b[i]? =some v:=by
 obtain⟨t,rfl⟩:=x
 have hi:i<a.length:=rV h
 rw[bU hi,h]
theorem RV.ext {ρ':List Addr} (x:Ext ρ ρ') {v:SV} (h:RV ρ v u):RV ρ' v u:=by
 cases v with
 |obj j=>exact h.elim λa h=>⟨a,x.get h.1,h.2⟩
 |_=>exact h
theorem RVs.ext {ρ':List Addr} (x:Ext ρ ρ') {v:List SV} {u:List Value} (h:RVs ρ v u):RVs ρ' v u:=All2.mono (λ_ _ a=>a.ext x) h
theorem All2.ext {ρ':List Addr} {v:List SV} {u:List Value} (h:All2 (RV ρ) v u) (x:Ext ρ ρ'):All2 (RV ρ') v u:=RVs.ext x h
theorem RE.map {P:Params} {ρ':List Addr} {f:SV->SV} (hf:∀{v:SV} {u:Value},RV ρ v u->RV ρ' (f v) u) {es:List (Str×SV)} {en:List DictEntry} (h:RE P ρ es en):RE P ρ' (es.map λp=>(p.1,f p.2)) en:=All2.mapl (λ_ _ a=>iJ a λt u e h=>⟨t,u,e,hf h⟩) h
theorem RE.ext {P:Params} {ρ':List Addr} (x:Ext ρ ρ') {v:List (Str×SV)} {u:List DictEntry} (h:RE P ρ v u):RE P ρ' v u:=All2.mono (λ_ _ a=>iJ a λt u e h=>⟨t,u,e,h.ext x⟩) h
theorem RK.ext {ρ':List Addr} (x:Ext ρ ρ') {v:List (Str×SV)} {u:List (Str×Value)} (h:RK ρ v u):RK ρ' v u:=All2.mono (λ_ _ a=>⟨a.1,a.2.ext x⟩) h
theorem RO.ext {ρ':List Addr} {a:Addr} (x:Ext ρ ρ') {v:SO} {u:Obj} (h:RO w G ρ a v u):RO w G ρ' a v u:=by
 cases v with
 |ud=>exact b7 h λn h e=>⟨n,h.ext x,e⟩
 |inst=>exact b7 h λa h e=>⟨a,x.get h,e⟩
 |dict=>exact b7 h λn h e=>⟨n,h.ext x,e⟩
 |list=>exact iJ h λw n h e=>⟨w,n,h.ext x,e⟩
 |listB=>exact⟨iJ h.1 λw n h e=>⟨w,n,h.ext x,e⟩,h.2⟩
 |tup=>exact iJ h λw n h e=>⟨w,n,h.ext x,e⟩
 |raw=>exact h
 |fz=>exact h
 |pud=>exact⟨h.1,b7 h.2 λn h e=>⟨n,h.ext x,e⟩⟩
 |cell v=>cases v with
  |none=>exact h
  |some=>exact b7 h λu h e=>⟨u,h,e.ext x⟩
theorem RVs.len {v:List SV} {u:List Value} (h:RVs ρ v u):u.length=v.length:=All2.len h
theorem RVs.app {a b:List SV} {c d:List Value} (h:RVs ρ a c) (k:RVs ρ b d):RVs ρ (a++b) (c++d):=All2.app h k
theorem RE.len {P:Params} {v:List (Str×SV)} {u:List DictEntry} (h:RE P ρ v u):u.length=v.length:=All2.len h
structure Rep (w:World) (G:Addr->Obj) (st:List SO) (aA:List (Addr×Obj)):Prop where
 len:aA.length=st.length
 nd:(aA.map (·.1)).Nodup
 at_:∀(i:Nat) (so:SO),st[i]? =some so->∃p:Addr×Obj,aA[i]? =some p/\RO w G (aA.map (·.1)) p.1 so p.2
noncomputable abbrev adr (aA:List (Addr×Obj)):List Addr:=aA.map (·.1)
theorem fH {i:Nat} {q:Addr×Obj} {a:Addr} (hq:aA[i]? =some q) (ha:(adr aA)[i]? =some a):q.1=a:=by
 rw[bp,hq] at ha
 exact oS ha
theorem Rep.get {st:List SO} (R:Rep w G st aA) {i:Nat} {so:SO} (h:st[i]? =some so):
  ∃a o,(adr aA)[i]? =some a/\(a,o)∈aA/\RO w G (adr aA) a so o:=by
 refine b7 (R.at_ i so h) λp hp ho=>?_
 refine⟨p.1,p.2,by simp[adr,hp],bD hp,ho⟩
theorem Rep.push {st:List SO} (R:Rep w G st aA) {d:Addr} {o:Obj} {so:SO} (hd:∀p∈aA,p.1≠d)
  (ho:RO w G (adr (aA++[(d,o)])) d so o):Rep w G (st++[so]) (aA++[(d,o)]):=by
 refine⟨by simp[R.len],?_,λi x h=>?_⟩
 ·rw[bH,bZ]
  refine⟨R.nd,by simp,?_⟩
  intro a ha b hb
  refine b7 (bY.mp ha) λp hp z1=>?_;subst z1
  simp at hb
  rw[<-hb] at hd;rw[<-hb] at ho
  exact hd p hp
 ·rcases be i st.length with q|q
  ·rw[bU q] at h
   refine b7 (R.at_ i x h) λp hp hr=>?_
   refine⟨p,by rw[bU (by rw[R.len];exact q)];exact hp,hr.ext ⟨[d],by simp⟩⟩
  ·rw[bV q] at h
   have hi:i-st.length=0:=by
    rcases Nat.eq_zero_or_pos (i-st.length) with z|z
    ·exact z
    ·rw[bP (by simp;omega)] at h;exact b5 h
   rw[hi] at h
   simp at h
   subst h
   refine⟨(d,o),?_,ho⟩
   have:i=aA.length:=by rw[R.len];omega
   subst this
   simp
theorem ext_push {d:Addr} {o:Obj}:Ext (adr aA) (adr (aA++[(d,o)])):=⟨[d],by simp[adr]⟩
theorem i4 {st:List SO} (R:Rep w G st aA) {d:Addr} {o:Obj}:(adr (aA++[(d,o)]))[st.length]? =some d:=by
 simp[adr,<-R.len]
theorem NH (nd:(aA.map (·.1)).Nodup):∀{i:Nat} {d:Addr} {o:Obj},aA[i]? =some (d,o)->∀o',Upd d o o' aA (aA.set i (d,o')):=by
 induction aA with
 |nil=>intro i d o h;simp at h
 |cons p r ih=>
  intro i d o h o'
  rw[bL,List.nodup_cons] at nd
  cases i with
  |zero=>
   simp at h
   subst h
   exact .head λq hq e=>nd.1 (bY.mpr ⟨q,hq,e⟩)
  |succ i=>
   simp at h
   refine .tail (λe=>nd.1 (bY.mpr ⟨_,bD h,e.symm⟩)) (ih nd.2 h o')
theorem yI {i:Nat} {d:Addr} {o o':Obj} (h:aA[i]? =some (d,o)):adr (aA.set i (d,o'))=adr aA:=by
 apply List.ext_getElem?
 intro j
 simp only[bp,bc]
 by_cases e:i=j
 ·subst e
  have:i<aA.length:=rV h
  have q:=h
  rw[bR this] at q
  simp[this,bS q]
 ·simp[e]
theorem Rep.set {st:List SO} (R:Rep w G st aA) {i:Nat} {d:Addr} {o o':Obj} {so:SO} (h:aA[i]? =some (d,o)) (ho:RO w G (adr aA) d so o'):
  Rep w G (st.set i so) (aA.set i (d,o')):=by
 have ea:=yI (o':=o') h
 refine⟨by simp[R.len],by rw[show(aA.set i (d,o')).map (·.1)=adr aA from ea];exact R.nd,λj x hx=>?_⟩
 rw[show(aA.set i (d,o')).map (·.1)=adr aA from ea]
 rw[bc] at hx
 by_cases e:i=j
 ·subst e
  have il:i<aA.length:=rV h
  have:i<st.length:=R.len▸il
  simp[this] at hx
  subst hx
  exact⟨(d,o'),by simp[il],ho⟩
 ·simp[e] at hx
  refine b7 (R.at_ j x hx) λp hp hr=>?_
  exact⟨p,by simp[e,hp],hr⟩
theorem lY {P:Params} (x:Str):∀{es:List (Str×SV)} {en:List DictEntry},RE P ρ es en->∃r,getL x en=some r/\(match lk es x with|some v=>∃u,r=some u/\RV ρ v u|none=>r=none)
 |[],en,h=>by
  cases en with
  |nil=>exact⟨none,rfl,rfl⟩
  |cons=>exact h.elim
 |p::r,en,h=>by
  cases en with
  |nil=>exact h.elim
  |cons e t=>
  obtain⟨z1,b⟩:=h
  refine iJ z1 λtk u he hv=>?_;clear z1
  subst he
  have key:(Value.str p.1 tk).isStr x=seq p.1 x:=by rw[gB];rfl
  refine b7 (lY x b) λw hw hm=>?_
  unfold lk
  cases h:seq p.1 x with
  |true=>
   refine⟨some u,?_,u,rfl,hv⟩
   unfold getL
   rw[List.find?_cons,key,h]
  |false=>
   refine⟨w,?_,hm⟩
   rw[<-hw]
   unfold getL
   rw[List.find?_cons,key,h,bn]
   rfl
theorem vE {P:Params} {x:Str} {v:SV} {tk:Tok} (hv:RV ρ v u):∀{es:List (Str×SV)} {en:List DictEntry},RE P ρ es en->
  RE P ρ (jG es x v) (putL x (PyData.keyHash P x) (.str x tk) u en)/\putN x en es.length=(jG es x v).length
 |[],en,h=>by
  cases en with
  |nil=>exact⟨⟨⟨tk,u,rfl,hv⟩,trivial⟩,rfl⟩
  |cons=>exact h.elim
 |p::r,en,h=>by
  cases en with
  |nil=>exact h.elim
  |cons e t=>
  obtain⟨z1,b⟩:=h
  refine iJ z1 λaU u' he hv'=>?_;clear z1
  subst he
  have key:(Value.str p.1 aU).isStr x=seq p.1 x:=by rw[gB];rfl
  obtain⟨i1,i2⟩:=vE (x:=x) (tk:=tk) hv b
  unfold jG putL putN
  rw[key,bn,key]
  cases h:seq p.1 x with
  |true=>
   refine⟨?_,by simp⟩
   simp only[if_true]
   exact⟨⟨aU,u,rfl,hv⟩,b⟩
  |false=>
   simp only[bW,if_false,Bool.false_or]
   refine⟨⟨⟨aU,u',rfl,hv'⟩,i1⟩,?_⟩
   unfold putN at i2
   show _=(jG r x v).length+1
   rw[<-i2,List.length_cons]
   by_cases q:(t.any λx_1=>x_1.key.isStr x)=true
   ·simp[q]
   ·simp[q]
inductive Tr (α:Type) where
 |ret (a:α)|no|br (b:Bool) (t f:Tr α)
noncomputable def Tr.bind {α β:Type}:Tr α->(α->Tr β)->Tr β
 | .ret a,k=>k a
 | .no,_=>.no
 | .br b t f,k=>.br b (t.bind k) (f.bind k)
noncomputable def Tr.wp {α:Type}:Tr α->(α->Prop)->Prop
 | .ret a,φ=>φ a
 | .no,_=>False
 | .br b t f,φ=>(b=true->t.wp φ)/\(b=false->f.wp φ)
theorem Tr.wp_bind {α β:Type} {k:α->Tr β} {φ:β->Prop}:∀{t:Tr α},(t.bind k).wp φ->t.wp λa=>(k a).wp φ
 | .ret _,h=>h
 | .no,h=>h
 | .br _ _ _,h=>⟨λe=>wp_bind (h.1 e),λe=>wp_bind (h.2 e)⟩
theorem Tr.wp_elim {α:Type} {φ:α->Prop} {G:Prop} (h:∀a,φ a->G):∀{t:Tr α},t.wp φ->G
 | .ret a,x=>h a x
 | .no,x=>x.elim
 | .br b t f,x=>by
  cases b with
  |true=>exact wp_elim h (x.1 rfl)
  |false=>exact wp_elim h (x.2 rfl)
end Mine
end
variable {st:List Mine.SO}{loc:Mine.Loc}{vs:List Mine.SV}
section
open PySem PySem.W PyProof.Rows PySem.Calls
namespace Mine.R
structure FRow where
 f:Addr
 ar:Nat
 qual:Str
 scope:PySem.Scope
 body:List Stmt
 cdv:Value
 names:List Str
 dfl:List SV
structure Tb where
 attr:List (Addr×List Str)
 meth:List (Addr×List (Str×Addr))
 smeth:List (Addr×List (Str×Addr))
 cls:List (Addr×Addr)
 glob:List (Str×Value)
 blt:List (Str×Value)
 fns:List FRow
structure Fn where
 name:Str
 scope:PySem.Scope
 fa:Addr
 cdv:Value
 dn:Nat
 cs:Option PySem.Scope:=none
inductive Flo where
 |next|brk|cont|ret (v:SV)
structure Ih where
 E:Fn->List SO->Loc->Expr->Tr (SV×List SO)
 T:Fn->List SO->Loc->Expr->Tr (Bool×List SO)
 S:Fn->List SO->Loc->List Stmt->Tr (Flo×List SO×Loc)
structure CF where
 C:Addr
 oC:Obj
 m2:Str->Option Value
 cl:List (Str×Addr)
 ok:LCg.NsObj oC m2
structure FL where
 a:Addr
 cl:List (Str×Addr)
 c:Option CF
noncomputable abbrev Fn.fenv (fn:Fn) (L:FL):Env:=envX fn.name fn.scope L.a fn.fa fn.cdv L.cl
def Fn.env (fn:Fn) (L:FL):Env:=match fn.cs with
 |none=>fn.fenv L
 |some sc=>match L.c with
  |none=>fn.fenv L
  |some c=>compEnvC sc c.cl c.C (fn.fenv L)
noncomputable def FL.lk (L:FL) (mm:Str->Option Value):Str->Option Value:=match L.c with
 |none=>mm
 |some c=>c.m2
noncomputable def FL.cls (L:FL):List (Str×Addr):=match L.c with
 |none=>L.cl
 |some c=>c.cl
def VL (L:FL) (mm:Str->Option Value) (ρ:List Addr) (x:Str) (v:SV):Prop:=match v with
 | .cell i=>∃a,L.cls.lookup x=some a/\ρ[i]? =some a
 |v=>∃u,L.lk mm x=some u/\RV ρ v u
theorem jQ {L:FL} {x:Str} {v:SV} (h:∃u,L.lk mm x=some u/\RV ρ v u):VL L mm ρ x v:=by
 cases v<;>first|exact h|exact h.elim λ_ q=>q.2.elim
theorem VL.ext {L:FL} {ρ':List Addr} {x:Str} {v:SV} (e:Ext ρ ρ') (h:VL L mm ρ x v):VL L mm ρ' x v:=by
 cases v with
 |cell i=>obtain⟨a,h1,h2⟩:=h;exact⟨a,h1,e.get h2⟩
 |_=>obtain⟨u,h1,h2⟩:=h;exact⟨u,h1,h2.ext e⟩
theorem VL.upd {L:FL} {aV:Str->Option Value} {x:Str} {v:SV} (e:L.lk aV x=L.lk mm x) (h:VL L mm ρ x v):VL L aV ρ x v:=by
 cases v with
 |cell i=>exact h
 |_=>obtain⟨u,h1,h2⟩:=h;exact⟨u,by rw[e];exact h1,h2⟩
structure Fx (w:World) (fn:Fn) (A:Around) (outer:List Env) (aZ:Around) (base aY:Heap) (L:FL) (p:Program) (loose:List Str) (aC:ExcName->Option Value) (mg mb:Str->Option Value):Prop where
 B:Below aZ base outer aY
 X:(K w.params).In aY
 T:Top p loose aC mg mb aY
 hA:A.frames=some (fn.fenv L::outer)
 hc:fn.cs.isSome=L.c.isSome
 hk:fn.scope.kind=.function
 hh:A.handled=none
 hd:A.depth+4*fn.dn<recursionLimit
 hu:A.units+20*fn.dn+100<cLine
structure Now (w:World) (G:Addr->Obj) (aY:Heap) (L:FL) (loc:Loc) (st:List SO) (mm:Str->Option Value) (xs aA:List (Addr×Obj)) (h:Heap):Prop where
 F:Fr aY L.a h mm
 NX:News aY L.a h (xs++aA)
 CX:∀c,L.c=some c->(c.C,c.oC)∈xs
 off:∀p∈xs,∀q∈aA,p.1≠q.1
 R:Rep w G st aA
 V:∀x v,lk loc x=some v->VL L mm (adr aA) x v
def SE (w:World) (prog:Program) (fn:Fn) (st:List SO) (loc:Loc) (t:Tr (SV×List SO)) (m:Env->Sem Value):Prop:=
 ∀{A:Around} {outer:List Env} {aZ:Around} {base aY:Heap} {L:FL} {p:Program} {loose:List Str} {aC:ExcName->Option Value} {mg mb:Str->Option Value},
  Fx w fn A outer aZ base aY L p loose aC mg mb->∀{φ:SV×List SO->Prop},t.wp φ->∀{s:Shared} {mm:Str->Option Value} {G:Addr->Obj} {xs aA:List (Addr×Obj)} {Q:Value->Shared->Prop} {E:Value->Shared->Prop},
  Now w G aY L loc st mm xs aA s.heap->
  (∀v aT u aB h' aU,φ (v,aT)->Ext (adr aA) (adr aB)->Now w G aY L loc aT mm xs aB h'->RV (adr aB) v u->Q u {s with heap:=h',toks:=aU})->
  wpAny (model prog w) A (m (fn.env L)) Q E s
def ST (w:World) (prog:Program) (fn:Fn) (st:List SO) (loc:Loc) (t:Tr (Bool×List SO)) (m:Env->Sem Bool):Prop:=
 ∀{A:Around} {outer:List Env} {aZ:Around} {base aY:Heap} {L:FL} {p:Program} {loose:List Str} {aC:ExcName->Option Value} {mg mb:Str->Option Value},
  Fx w fn A outer aZ base aY L p loose aC mg mb->∀{φ:Bool×List SO->Prop},t.wp φ->∀{s:Shared} {mm:Str->Option Value} {G:Addr->Obj} {xs aA:List (Addr×Obj)} {Q:Bool->Shared->Prop} {E:Value->Shared->Prop},
  Now w G aY L loc st mm xs aA s.heap->
  (∀b aT aB h' aU,φ (b,aT)->Ext (adr aA) (adr aB)->Now w G aY L loc aT mm xs aB h'->Q b {s with heap:=h',toks:=aU})->
  wpAny (model prog w) A (m (fn.env L)) Q E s
def SA (w:World) (prog:Program) (fn:Fn) (st:List SO) (loc:Loc) (t:Tr (List SV×List SO)) (m:Env->Sem (List Value)):Prop:=
 ∀{A:Around} {outer:List Env} {aZ:Around} {base aY:Heap} {L:FL} {p:Program} {loose:List Str} {aC:ExcName->Option Value} {mg mb:Str->Option Value},
  Fx w fn A outer aZ base aY L p loose aC mg mb->∀{φ:List SV×List SO->Prop},t.wp φ->∀{s:Shared} {mm:Str->Option Value} {G:Addr->Obj} {xs aA:List (Addr×Obj)} {Q:List Value->Shared->Prop} {E:Value->Shared->Prop},
  Now w G aY L loc st mm xs aA s.heap->
  (∀vs aT us aB h' aU,φ (vs,aT)->Ext (adr aA) (adr aB)->Now w G aY L loc aT mm xs aB h'->RVs (adr aB) vs us->Q us {s with heap:=h',toks:=aU})->
  wpAny (model prog w) A (m (fn.env L)) Q E s
def K6 (ρ:List Addr):Flo->Flow->Prop
 | .next,f=>f=.next
 | .brk,f=>f=.brk
 | .cont,f=>f=.cont
 | .ret v,f=>∃u,f=.ret u/\RV ρ v u
def SS (w:World) (prog:Program) (fn:Fn) (st:List SO) (loc:Loc) (t:Tr (Flo×List SO×Loc)) (m:Env->Sem Flow):Prop:=
 ∀{A:Around} {outer:List Env} {aZ:Around} {base aY:Heap} {L:FL} {p:Program} {loose:List Str} {aC:ExcName->Option Value} {mg mb:Str->Option Value},
  Fx w fn A outer aZ base aY L p loose aC mg mb->fn.cs=none->∀{φ:Flo×List SO×Loc->Prop},t.wp φ->∀{s:Shared} {mm:Str->Option Value} {G:Addr->Obj} {xs aA:List (Addr×Obj)} {Q:Flow->Shared->Prop} {E:Value->Shared->Prop},
  PassesOwn (model prog w) A (fn.env L) E->
  Now w G aY L loc st mm xs aA s.heap->
  (∀f aT loc' fl aV aB h' aU,φ (f,aT,loc')->Ext (adr aA) (adr aB)->Now w G aY L loc' aT aV xs aB h'->K6 (adr aB) f fl->Q fl {s with heap:=h',toks:=aU})->
  wpAny (model prog w) A (m (fn.env L)) Q E s
structure IhOk (w:World) (prog:Program) (ih:Ih):Prop where
 E:∀fn st loc e,SE w prog fn st loc (ih.E fn st loc e) (eval e)
 T:∀fn st loc e,ST w prog fn st loc (ih.T fn st loc e) (λenv=>PySem.isTrue e env (eval e env))
 S:∀fn st loc b,SS w prog fn st loc (ih.S fn st loc b) (execs b)
theorem Fx.c0 {fn:Fn} {L:FL} (C:Fx w fn A outer aZ base aY L p loose aC mg mb) (h:fn.cs=none):L.c=none:=by
 have:=C.hc
 rw[h] at this
 cases e:L.c with
 |none=>rfl
 |some c=>rw[e] at this;exact d9 this
theorem Fn.env0 {fn:Fn} (h:fn.cs=none) (L:FL):fn.env L=fn.fenv L:=by unfold Fn.env;rw[h]
theorem FL.lk0 {L:FL} (h:L.c=none) (mm:Str->Option Value):L.lk mm=mm:=by unfold FL.lk;rw[h]
theorem Now.N {L:FL} {h:Heap} (n:Now w G aY L loc st mm xs aA h):News aY L.a h aA:=λp hp=>n.NX p (ay _ hp)
theorem Now.ext {L:FL} {aT:List SO} {aB:List (Addr×Obj)} {h h':Heap}
  (n:Now w G aY L loc st mm xs aA h) (F:Fr aY L.a h' mm) (N:News aY L.a h' (xs++aB)) (o:∀p∈xs,∀q∈aB,p.1≠q.1) (R:Rep w G aT aB) (x:Ext (adr aA) (adr aB)):Now w G aY L loc aT mm xs aB h':=
 ⟨F,N,n.CX,o,R,λy v hy=>(n.V y v hy).ext x⟩
noncomputable def rD {α:Type} (sy:Bool) (b:Bool) (t f:Tr α):Tr α:=match sy with
 |true=>.br b t f
 |false=>match b with
  |true=>t
  |false=>f
theorem f9 {α:Type} {sy b:Bool} {t f:Tr α} {φ:α->Prop} (h:(rD sy b t f).wp φ):if b=true then t.wp φ else f.wp φ:=by
 cases sy<;>cases b
 ·exact h
 ·exact h
 ·exact h.2 rfl
 ·exact h.1 rfl
section
variable {w:World} {prog:Program} {ih:Ih} (I:IhOk w prog ih)
noncomputable def p5 (e:Expr):Bool:=match e with
 | .Starred ..=>true
 |_=>false
noncomputable def oH (ih:Ih) (fn:Fn) (st:List SO) (loc:Loc):List Expr->Tr (List SV×List SO)
 |[]=>.ret ([],st)
 |e::r=>match p5 e with
  |true=>.no
  |false=>(ih.E fn st loc e).bind λx=>(oH ih fn x.2 loc r).bind λy=>.ret (x.1::y.1,y.2)
theorem cR {e:Expr} {r:List Expr} {env:Env} (h:∀v p,e≠.Starred v p):starEach (e::r) env=(false,eval e env)::starEach r env:=by
 cases e<;>first|rfl|exact absurd rfl (h _ _)
theorem fB {fn:Fn} {e:Expr} {r:List Expr} {φ:List SV×List SO->Prop} (h:(oH ih fn st loc (e::r)).wp φ):
  (∀v p,e≠.Starred v p)/\((ih.E fn st loc e).bind λx=>(oH ih fn x.2 loc r).bind λy=>.ret (x.1::y.1,y.2)).wp φ:=by
 have h:(match p5 e with|true=>Tr.no|false=>(ih.E fn st loc e).bind λx=>(oH ih fn x.2 loc r).bind λy=>.ret (x.1::y.1,y.2)).wp φ:=h
 cases hs:p5 e with
 |true=>rw[hs] at h;exact h.elim
 |false=>rw[hs] at h;exact⟨λv p q=>by rw[q] at hs;exact d9 hs.symm,h⟩
include I in
theorem sA {fn:Fn} {pos:Pos}:∀{es:List Expr} {st:List SO},SA w prog fn st loc (oH ih fn st loc es) (λenv=>spliced (backTo pos (starEach es env)))
 |[],st=>λC φ h s mm G xs aA Q E n k=>spliced_none (k [] st [] aA s.heap s.toks h .rfl' n trivial)
 |e::r,st=>λC φ h s mm G xs aA Q E n k=>by
  obtain⟨ne,h⟩:=fB h
  refine spliced_more ?_ (cR ne)
  refine I.E fn st loc e C (Tr.wp_bind h) n λv aT u aB h' aU af x n' hv=>?_
  refine sA C (Tr.wp_bind af) n' λvs st'' us news'' h'' tk'' hφ' x' n'' hvs=>?_
  exact k _ _ (u::us) news'' h'' tk'' hφ' (x.trans x') n'' ⟨hv.ext x',hvs⟩
theorem fM {fn:Fn} {env:Env} {pos:Pos}:∀{es:List Expr} {st:List SO} {φ:List SV×List SO->Prop},(oH ih fn st loc es).wp φ->(starEach es env).any (·.1)=false
 |[],_,_,_=>rfl
 |e::r,st,φ,h=>by
  obtain⟨ne,h⟩:=fB h
  rw[cR ne,bn]
  exact Tr.wp_elim (λx hx=>fM (pos:=pos) (Tr.wp_bind hx)) (Tr.wp_bind h)
end
theorem QZ {α:Type} {d:Option Str} {A:Str->Option α} {r:α} {R:Prop} (h:(match d with|some x=>A x|none=>none)=some r) (K:∀x,d=some x->A x=some r->R):R:=by
 cases d with
 |none=>exact b5 h
 |some x=>exact K _ rfl h
theorem XX {α:Type} {d:Option (Str×Str)} {A:Str×Str->Option α} {r:α} {R:Prop} (h:(match d with|some x=>A x|none=>none)=some r) (K:∀x,d=some x->A x=some r->R):R:=by
 cases d with
 |none=>exact b5 h
 |some x=>exact K _ rfl h
theorem XW {α:Type} {d:Bool} {A:Option α} {r:α} {R:Prop} (h:(match d with|true=>A|false=>none)=some r) (K:d=true->A=some r->R):R:=by
 cases d with
 |false=>exact b5 h
 |true=>exact K rfl h
theorem IhOk.Eq {ih:Ih} (I:IhOk w prog ih) (fn:Fn) (st:List SO) (loc:Loc) (e:Expr) {L:FL} (C:Fx w fn A outer aZ base aY L p loose aC mg mb) {v:SV} {aT:List SO}
  (h:(ih.E fn st loc e).wp λy=>y=(v,aT)) {Q:Value->Shared->Prop} (n:Now w G aY L loc st mm xs aA s.heap)
  (k:∀u aB h' aU,Ext (adr aA) (adr aB)->Now w G aY L loc aT mm xs aB h'->RV (adr aB) v u->Q u {s with heap:=h',toks:=aU}):wpAny (model prog w) A (eval e (fn.env L)) Q E s:=
 I.E fn st loc e C h n λv aT u aB h' aU af x n' hv=>by(refine pI af λe1 e2=>?_;clear af;(rw[<-e1] at h;rw[<-e1] at k;rw[<-e2] at h;rw[<-e2] at k));exact k u aB h' aU x n' hv
theorem IhOk.Tq {ih:Ih} (I:IhOk w prog ih) (fn:Fn) (st:List SO) (loc:Loc) (e:Expr) {L:FL} (C:Fx w fn A outer aZ base aY L p loose aC mg mb) {v:Bool} {aT:List SO}
  (h:(ih.T fn st loc e).wp λy=>y=(v,aT)) {Q:Bool->Shared->Prop} (n:Now w G aY L loc st mm xs aA s.heap)
  (k:∀aB h' aU,Ext (adr aA) (adr aB)->Now w G aY L loc aT mm xs aB h'->Q v {s with heap:=h',toks:=aU}):wpAny (model prog w) A (PySem.isTrue e (fn.env L) (eval e (fn.env L))) Q E s:=
 I.T fn st loc e C h n λv aT aB h' aU af x n'=>by(refine pI af λe1 e2=>?_;clear af;(rw[<-e1] at h;rw[<-e1] at k;rw[<-e2] at h;rw[<-e2] at k));exact k aB h' aU x n'
theorem IhOk.Sq {ih:Ih} (I:IhOk w prog ih) (fn:Fn) (st:List SO) (loc:Loc) (b:List Stmt) {L:FL} (C:Fx w fn A outer aZ base aY L p loose aC mg mb) (ac:fn.cs=none) {f:Flo} {aT:List SO} {loc':Loc}
  (h:(ih.S fn st loc b).wp λy=>y=(f,aT,loc')) (PE:PassesOwn (model prog w) A (fn.env L) E) (n:Now w G aY L loc st mm xs aA s.heap)
  (k:∀fl aV aB h' aU,Ext (adr aA) (adr aB)->Now w G aY L loc' aT aV xs aB h'->K6 (adr aB) f fl->Q fl {s with heap:=h',toks:=aU}):wpAny (model prog w) A (execs b (fn.env L)) Q E s:=
 I.S fn st loc b C ac h PE n λf aT loc' fl aV aB h' aU af x n' hf=>by cases af;exact k fl aV aB h' aU x n' hf
end Mine.R
end
variable {L:Mine.R.FL}{fn:Mine.R.Fn}{ih:Mine.R.Ih}
section
open PySem PySem.W PyProof.Rows PySem.Calls PySem.SeqAt
namespace Mine
open Mine.R
section
variable {α:Type} {R:Prop} {φ:α->Prop} {r:α}
theorem mO2 {d:Option Value} {A:Value->Tr α} {B:Tr α} (h:(match d with|some v=>A v|none=>B).wp φ) (k1:∀v,d=some v->(A v).wp φ->R) (k0:d=none->B.wp φ->R):R:=by
 cases d with
 |none=>exact k0 rfl h
 |some v=>exact k1 v rfl h
theorem nO2 {d:Option Bool} {A:Bool->Option α} {B:Option α} (h:(match d with|some v=>A v|none=>B)=some r) (k1:∀v,d=some v->A v=some r->R) (k0:d=none->B=some r->R):R:=by
 cases d with
 |none=>exact k0 rfl h
 |some v=>exact k1 v rfl h
theorem nP2 {d:Option Nat} {e:Option Nat} {A:Nat->Nat->Option α} {B:Option α} (h:(match d,e with|some v,some u=>A v u|_,_=>B)=some r) (k1:∀v u,d=some v->e=some u->A v u=some r->R) (k0:B=some r->R):R:=by
 cases d with
 |none=>exact k0 h
 |some v=>cases e with
  |none=>exact k0 h
  |some u=>exact k1 v u rfl rfl h
theorem aC4 {d e:Option Bool} {A:Bool->Bool->Option α} (h:(match d,e with|some v,some u=>A v u|_,_=>none)=some r) (k1:∀v u,d=some v->e=some u->A v u=some r->R):R:=by
 cases d with
 |none=>exact b5 h
 |some v=>cases e with
  |none=>exact b5 h
  |some u=>exact k1 v u rfl rfl h
theorem mB2 {d:Bool} {A B:Tr α} (h:(match d with|true=>A|false=>B).wp φ) (k1:d=true->A.wp φ->R) (k0:d=false->B.wp φ->R):R:=by
 cases d with
 |false=>exact k0 rfl h
 |true=>exact k1 rfl h
theorem Q6 {d:Bool} {A B:Option α} (h:(match d with|true=>A|false=>B)=some r) (k1:d=true->A=some r->R) (k0:d=false->B=some r->R):R:=by
 cases d with
 |false=>exact k0 rfl h
 |true=>exact k1 rfl h
theorem OF {a b:String} {A B:Option α} (h:(match decide (a=b) with|true=>A|false=>B)=some r) (k1:a=b->A=some r->R) (k0:B=some r->R):R:=Q6 h (λe=>k1 (of_decide_eq_true e)) λ_=>k0
theorem zI {a b:String} {A:Option α} (h:(match decide (a=b) with|true=>A|false=>none)=some r) (k1:a=b->A=some r->R):R:=OF h k1 b5
theorem mS2 {a b:String} {A B:Tr α} (h:(match decide (a=b) with|true=>A|false=>B).wp φ) (k1:a=b->A.wp φ->R) (k0:B.wp φ->R):R:=mB2 h (λe=>k1 (of_decide_eq_true e)) λ_=>k0
theorem mS1 {a b:String} {A:Tr α} (h:(match decide (a=b) with|true=>A|false=>Tr.no).wp φ) (k1:a=b->A.wp φ->R):R:=mS2 h k1 False.elim
theorem nL2 {d:List SV} {A:SV->SV->Option α} (h:(match d with|[a,b]=>A a b|_=>none)=some r) (k:∀a b,d=[a,b]->A a b=some r->R):R:=by
 cases d with
 |nil=>exact b5 h
 |cons a l=>cases l with
  |nil=>exact b5 h
  |cons b t=>cases t with
   |nil=>exact k a b rfl h
   |cons c q=>exact b5 h
theorem nI0 {d:SV} {l:List SV} {A:SV->List SV->Option α} (h:(match d,l with| .int (.ofNat 0),x::t=>A x t|_,_=>none)=some r) (k:∀x t,d=.int (.ofNat 0)->l=x::t->A x t=some r->R):R:=by
 cases d with
 |int n=>cases n with
  |ofNat m=>cases m with
   |zero=>cases l with
    |nil=>exact b5 h
    |cons x t=>exact k x t rfl rfl h
   |succ m=>exact b5 h
  |negSucc m=>exact b5 h
 |_=>exact b5 h
noncomputable def kU (v:Expr):Option (Str×Pos):=match v with
 | .Name x p=>some (x,p)
 |_=>none
theorem fX {v:Expr} {q:Str×Pos} (h:kU v=some q):v=.Name q.1 q.2:=by
 cases v with
 |Name=>rw[<-bS h]
 |_=>exact b5 h
theorem mN2 {d:Option (Str×Pos)} {A:Str×Pos->Tr α} {B:Tr α} (h:(match d with|some v=>A v|none=>B).wp φ) (k1:∀v,d=some v->(A v).wp φ->R) (k0:d=none->B.wp φ->R):R:=by
 cases d with
 |none=>exact k0 rfl h
 |some v=>exact k1 v rfl h
theorem mzI {d0:Option SO} {A0 A1:List SV->Option α} {A2:List (Str×SV)->Option α} (h:(match d0 with|some (SO.list x0)=>A0 x0|some (SO.tup x0)=>A1 x0|some (SO.ud x0)=>A2 x0|_=>none)=some r) (K0:∀x0,d0=some (SO.list x0)->A0 x0=some r->R) (K1:∀x0,d0=some (SO.tup x0)->A1 x0=some r->R) (K2:∀x0,d0=some (SO.ud x0)->A2 x0=some r->R):R:=by
 generalize b8:d0=e0 at h
 cases e0 with
 |none=>exact b5 h
 |some y1=>cases y1 with
  |list y2=>exact K0 _ b8 h
  |tup y2=>exact K1 _ b8 h
  |ud y2=>exact K2 _ b8 h
  |_=>exact b5 h
theorem mzN {d:Option Nat} {A:Nat->Option α} (h:(match d with|some v=>A v|none=>none)=some r) (k:∀v,d=some v->A v=some r->R):R:=by
 cases d with
 |none=>exact b5 h
 |some v=>exact k v rfl h
theorem mzO {d:Option SO} {A:SO->Option α} (h:(match d with|some v=>A v|none=>none)=some r) (k:∀v,d=some v->A v=some r->R):R:=by
 cases d with
 |none=>exact b5 h
 |some v=>exact k v rfl h
theorem mzL {d:SV} {A:Value->Tr α} (h:(match d with| .lit v=>A v|_=>Tr.no).wp φ) (k:∀v,d=.lit v->(A v).wp φ->R):R:=by
 cases d with
 |lit v=>exact k v rfl h
 |_=>exact h.elim
theorem mzR {d:Option FRow} {A:FRow->Tr α} (h:(match d with|some v=>A v|none=>Tr.no).wp φ) (k:∀v,d=some v->(A v).wp φ->R):R:=by
 cases d with
 |none=>exact h.elim
 |some v=>exact k v rfl h
theorem mA2 {d:Option Nat} {A:Nat->Tr α} {B:Tr α} (h:(match d with|some v=>A v|none=>B).wp φ) (k1:∀v,d=some v->(A v).wp φ->R) (k0:d=none->B.wp φ->R):R:=by
 cases d with
 |none=>exact k0 rfl h
 |some v=>exact k1 v rfl h
theorem mY2 {d:Option (SV×List SO)} {A:SV×List SO->Tr α} {B:Tr α} (h:(match d with|some v=>A v|none=>B).wp φ) (k1:∀v,d=some v->(A v).wp φ->R) (k0:d=none->B.wp φ->R):R:=by
 cases d with
 |none=>exact k0 rfl h
 |some v=>exact k1 v rfl h
theorem mzJ {d:Option Int} {A:Int->Tr α} (h:(match d with|some v=>A v|none=>Tr.no).wp φ) (k:∀v,d=some v->(A v).wp φ->R):R:=by
 cases d with
 |none=>exact h.elim
 |some v=>exact k v rfl h
noncomputable def LB (v:Expr):Option (Expr×Str×Pos):=match v with
 | .Attribute o x p=>some (o,x,p)
 |_=>none
theorem sJ {v:Expr} {q:Expr×Str×Pos} (h:LB v=some q):v=.Attribute q.1 q.2.1 q.2.2:=by
 cases v with
 |Attribute=>rw[<-bS h]
 |_=>exact b5 h
theorem gS {β:Type} {d:Option β} {R:Prop} (h:d.isSome=true) (k:∀v,d=some v->R):R:=by
 cases d with
 |none=>exact d9 h
 |some v=>exact k v rfl
theorem aBA {d:Option (Expr×Str×Pos)} {A:Expr×Str×Pos->Tr α} {B:Tr α} (h:(match d with|some v=>A v|none=>B).wp φ) (k1:∀v,d=some v->(A v).wp φ->R) (k0:d=none->B.wp φ->R):R:=by
 cases d with
 |none=>exact k0 rfl h
 |some v=>exact k1 v rfl h
theorem mT1 {d:Option SO} {A:Nat->Nat->Tr α} (h:(match d with|some (SO.inst x y)=>A x y|_=>Tr.no).wp φ) (k:∀x y,d=some (SO.inst x y)->(A x y).wp φ->R):R:=by
 cases d with
 |none=>exact h.elim
 |some o=>cases o with
  |inst x y=>exact k x y rfl h
  |_=>exact h.elim
theorem mT2 {d:Option SO} {A:List (Str×SV)->Tr α} (h:(match d with|some (SO.dict x)=>A x|_=>Tr.no).wp φ) (k:∀x,d=some (SO.dict x)->(A x).wp φ->R):R:=by
 cases d with
 |none=>exact h.elim
 |some o=>cases o with
  |dict x=>exact k x rfl h
  |_=>exact h.elim
theorem mK1 {d:Option NameKind} {A B C:Tr α} (h:(match d with|some .local=>A|some .cell=>B|some .globalImplicit=>C|_=>Tr.no).wp φ) (k1:d=some .local->A.wp φ->R) (k2:d=some .cell->B.wp φ->R) (k3:d=some .globalImplicit->C.wp φ->R):R:=by
 cases d with
 |none=>exact h.elim
 |some o=>cases o with
  |«local»=>exact k1 rfl h
  |cell=>exact k2 rfl h
  |globalImplicit=>exact k3 rfl h
  |_=>exact h.elim
theorem mK2 {d:Option NameKind} {A B C:Tr α} (h:(match d with|some .local=>A|some .free=>B|some .globalImplicit=>C|_=>Tr.no).wp φ) (k1:d=some .local->A.wp φ->R) (k2:d=some .free->B.wp φ->R) (k3:d=some .globalImplicit->C.wp φ->R):R:=by
 cases d with
 |none=>exact h.elim
 |some o=>cases o with
  |«local»=>exact k1 rfl h
  |free=>exact k2 rfl h
  |globalImplicit=>exact k3 rfl h
  |_=>exact h.elim
theorem aBB {d:Option PySem.Scope} {A:Tr α} {B:PySem.Scope->Tr α} (h:(match d with|none=>A|some v=>B v).wp φ) (k0:d=none->A.wp φ->R) (k1:∀v,d=some v->(B v).wp φ->R):R:=by
 cases d with
 |none=>exact k0 rfl h
 |some v=>exact k1 v rfl h
theorem mzF {d:Bool} {A:Tr α} (h:(match d with|true=>Tr.no|false=>A).wp φ) (k:d=false->A.wp φ->R):R:=by
 cases d with
 |true=>exact h.elim
 |false=>exact k rfl h
theorem mV2 {d:Option SV} {A:SV->Tr α} {B:Tr α} (h:(match d with|some v=>A v|none=>B).wp φ) (k1:∀v,d=some v->(A v).wp φ->R) (k0:d=none->B.wp φ->R):R:=by
 cases d with
 |none=>exact k0 rfl h
 |some v=>exact k1 v rfl h
theorem mE1 {d:Option Expr} {A:Expr->Tr α} (h:(match d with|some v=>A v|none=>Tr.no).wp φ) (k:∀v,d=some v->(A v).wp φ->R):R:=by
 cases d with
 |none=>exact h.elim
 |some v=>exact k v rfl h
theorem mz0 {d0:Option SV} {A0:SV->Tr α} (h:(match d0 with|some x0=>A0 x0|none=>Tr.no).wp φ) (K0:∀x0,d0=some x0->(A0 x0).wp φ->R):R:=by
 generalize b8:d0=e0 at h
 cases e0 with
 |none=>exact h.elim
 |some y1=>exact K0 _ b8 h
theorem i8 {d0:Bool} {A0:Tr α} (h:(match d0 with|true=>A0|false=>Tr.no).wp φ) (K0:d0=true->(A0).wp φ->R):R:=by
 generalize b8:d0=e0 at h
 cases e0 with
 |false=>exact h.elim
 |true=>exact K0 b8 h
theorem mz2 {d0:Option SV} {A0:Nat->Tr α} (h:(match d0 with|some (SV.cell x0)=>A0 x0|_=>Tr.no).wp φ) (K0:∀x0,d0=some (SV.cell x0)->(A0 x0).wp φ->R):R:=by
 generalize b8:d0=e0 at h
 cases e0 with
 |none=>exact h.elim
 |some y1=>
   cases y1 with
   |cell y2=>exact K0 _ b8 h
   |_=>exact h.elim
theorem mz3 {d0:Option SO} {A0:SV->Tr α} (h:(match d0 with|some (SO.cell (some x0))=>A0 x0|_=>Tr.no).wp φ) (K0:∀x0,d0=some (SO.cell (some x0))->(A0 x0).wp φ->R):R:=by
 generalize b8:d0=e0 at h
 cases e0 with
 |none=>exact h.elim
 |some y1=>
   cases y1 with
   |cell y2=>
     cases y2 with
     |none=>exact h.elim
     |some y3=>exact K0 _ b8 h
   |_=>exact h.elim
theorem mz4 {d0:Option Value} {A0:Value->Tr α} (h:(match d0 with|some x0=>A0 x0|none=>Tr.no).wp φ) (K0:∀x0,d0=some x0->(A0 x0).wp φ->R):R:=by
 generalize b8:d0=e0 at h
 cases e0 with
 |none=>exact h.elim
 |some y1=>exact K0 _ b8 h
theorem mz5 {d0:ScopeKind} {A0:Tr α} (h:(match d0 with|ScopeKind.function=>A0|_=>Tr.no).wp φ) (K0:d0=ScopeKind.function->(A0).wp φ->R):R:=by
 generalize b8:d0=e0 at h
 cases e0 with
 |function=>exact K0 b8 h
 |_=>exact h.elim
theorem mz6 {d0:Option NameKind} {A0:Tr α} (h:(match d0 with|some NameKind.cell=>A0|_=>Tr.no).wp φ) (K0:d0=some NameKind.cell->(A0).wp φ->R):R:=by
 generalize b8:d0=e0 at h
 cases e0 with
 |none=>exact h.elim
 |some y1=>
   cases y1 with
   |cell=>exact K0 b8 h
   |_=>exact h.elim
theorem mz7 {d0:Option SO} {A0:(List SV)->Option α} {A1:Nat->(List SV)->Option α} (h:(match d0 with|some (SO.list x0)=>A0 x0|some (SO.listB x0 x1)=>A1 x0 x1|_=>none)=some r) (K0:∀x0,d0=some (SO.list x0)->(A0 x0)=some r->R) (K1:∀x0 x1,d0=some (SO.listB x0 x1)->(A1 x0 x1)=some r->R):R:=by
 generalize b8:d0=e0 at h
 cases e0 with
 |none=>exact b5 h
 |some y1=>
   cases y1 with
   |list y2=>exact K0 _ b8 h
   |listB y3 y4=>exact K1 _ _ b8 h
   |_=>exact b5 h
theorem jM {d0:Bool} {A0:Option α} (h:(match d0 with|true=>A0|false=>none)=some r) (K0:d0=true->(A0)=some r->R):R:=by
 generalize b8:d0=e0 at h
 cases e0 with
 |false=>exact b5 h
 |true=>exact K0 b8 h
theorem mz9 {d0:Bool} {A0:Option α} (h:(match d0 with|false=>A0|true=>none)=some r) (K0:d0=false->(A0)=some r->R):R:=by
 generalize b8:d0=e0 at h
 cases e0 with
 |false=>exact K0 b8 h
 |true=>exact b5 h
theorem aBC {d0:SV} {d1:SV} {A0:Int->Int->Option α} {A1:Str->Str->Option α} {A2:Nat->(Array UInt8)->Nat->(Array UInt8)->Option α} (h:(match d0,d1 with|SV.int x0,SV.int x1=>A0 x0 x1|SV.str x0,SV.str x1=>A1 x0 x1|SV.bytes x0 x1,SV.bytes x2 x3=>A2 x0 x1 x2 x3|_,_=>none)=some r) (K0:∀x0 x1,d0=SV.int x0->d1=SV.int x1->(A0 x0 x1)=some r->R) (K1:∀x0 x1,d0=SV.str x0->d1=SV.str x1->(A1 x0 x1)=some r->R) (K2:∀x0 x1 x2 x3,d0=SV.bytes x0 x1->d1=SV.bytes x2 x3->(A2 x0 x1 x2 x3)=some r->R):R:=by
 generalize b8:d0=e0 at h
 generalize l5:d1=e1 at h
 cases e0 with
 |int y1=>
   cases e1 with
   |int y2=>exact K0 _ _ b8 l5 h
   |_=>exact b5 h
 |str y3=>
   cases e1 with
   |str y4=>exact K1 _ _ b8 l5 h
   |_=>exact b5 h
 |bytes y5 y6=>
   cases e1 with
   |bytes y7 y8=>exact K2 _ _ _ _ b8 l5 h
   |_=>exact b5 h
 |_=>exact b5 h
theorem X7 {d0:Option Bool} {A0:Bool->Option α} (h:(match d0 with|some x0=>A0 x0|none=>none)=some r) (K0:∀x0,d0=some x0->(A0 x0)=some r->R):R:=by
 generalize b8:d0=e0 at h
 cases e0 with
 |none=>exact b5 h
 |some y1=>exact K0 _ b8 h
theorem aBD {d0:Option SO} {d1:Option SO} {A0:(List SV)->(List SV)->Option α} (h:(match d0,d1 with|some (SO.tup x0),some (SO.tup x1)=>A0 x0 x1|_,_=>none)=some r) (K0:∀x0 x1,d0=some (SO.tup x0)->d1=some (SO.tup x1)->(A0 x0 x1)=some r->R):R:=by
 generalize b8:d0=e0 at h
 generalize l5:d1=e1 at h
 cases e0 with
 |none=>exact b5 h
 |some y1=>
   cases y1 with
   |tup y2=>
     cases e1 with
     |none=>exact b5 h
     |some y3=>
       cases y3 with
       |tup y4=>exact K0 _ _ b8 l5 h
       |_=>exact b5 h
   |_=>exact b5 h
theorem X8 {d0:SV} {d1:SV} {A0:Nat->Nat->Option α} (h:(match d0,d1 with|SV.obj x0,SV.obj x1=>A0 x0 x1|_,_=>none)=some r) (K0:∀x0 x1,d0=SV.obj x0->d1=SV.obj x1->(A0 x0 x1)=some r->R):R:=by
 generalize b8:d0=e0 at h
 generalize l5:d1=e1 at h
 cases e0 with
 |obj y1=>
   cases e1 with
   |obj y2=>exact K0 _ _ b8 l5 h
   |_=>exact b5 h
 |_=>exact b5 h
theorem aBE {d0:Option SO} {d1:Option SO} {A0:(List SV)->(List SV)->Option α} {A1:(List SV)->(List SV)->Option α} {A2:(List SV)->(List SV)->Option α} (h:(match d0,d1 with|some (SO.tup x0),some (SO.tup x1)=>A0 x0 x1|some (SO.tup x0),some (SO.list x1)=>A1 x0 x1|some (SO.list x0),some (SO.list x1)=>A2 x0 x1|_,_=>none)=some r) (K0:∀x0 x1,d0=some (SO.tup x0)->d1=some (SO.tup x1)->(A0 x0 x1)=some r->R) (K1:∀x0 x1,d0=some (SO.tup x0)->d1=some (SO.list x1)->(A1 x0 x1)=some r->R) (K2:∀x0 x1,d0=some (SO.list x0)->d1=some (SO.list x1)->(A2 x0 x1)=some r->R):R:=by
 generalize b8:d0=e0 at h
 generalize l5:d1=e1 at h
 cases e0 with
 |none=>exact b5 h
 |some y1=>
   cases y1 with
   |tup y2=>
     cases e1 with
     |none=>exact b5 h
     |some y3=>
       cases y3 with
       |tup y4=>exact K0 _ _ b8 l5 h
       |list y5=>exact K1 _ _ b8 l5 h
       |_=>exact b5 h
   |list y6=>
     cases e1 with
     |none=>exact b5 h
     |some y7=>
       cases y7 with
       |list y8=>exact K2 _ _ b8 l5 h
       |_=>exact b5 h
   |_=>exact b5 h
theorem aBF {d0:CmpOp} {A0:Option α} {A1:Option α} (h:(match d0 with|CmpOp.Eq=>A0|CmpOp.NotEq=>A1|_=>none)=some r) (K0:d0=CmpOp.Eq->(A0)=some r->R) (K1:d0=CmpOp.NotEq->(A1)=some r->R):R:=by
 generalize b8:d0=e0 at h
 cases e0 with
 |Eq=>exact K0 b8 h
 |NotEq=>exact K1 b8 h
 |_=>exact b5 h
theorem aBG {d0:CmpOp} {A0:Option α} (h:(match d0 with|CmpOp.NotIn=>A0|_=>none)=some r) (K0:d0=CmpOp.NotIn->(A0)=some r->R):R:=by
 generalize b8:d0=e0 at h
 cases e0 with
 |NotIn=>exact K0 b8 h
 |_=>exact b5 h
theorem aBH {d0:List SV} {A0:Option α} {A1:SV->Option α} {A2:Nat->Nat->Option α} (h:(match d0 with|[]=>A0|[x0]=>A1 x0|[SV.obj x0,SV.obj x1]=>A2 x0 x1|_=>none)=some r) (K0:d0=[]->(A0)=some r->R) (K1:∀x0,d0=[x0]->(A1 x0)=some r->R) (K2:∀x0 x1,d0=[SV.obj x0,SV.obj x1]->(A2 x0 x1)=some r->R):R:=by
 generalize b8:d0=e0 at h
 cases e0 with
 |nil=>exact K0 b8 h
 |cons a l=>
  cases l with
  |nil=>exact K1 _ b8 h
  |cons b t=>cases b with
   |obj y=>cases t with
    |nil=>cases a with
     |obj x=>exact K2 _ _ b8 h
     |_=>exact b5 h
    |cons c q=>first|exact b5 h|(cases a<;>exact b5 h)
   |_=>first|exact b5 h|(cases t<;>first|exact b5 h|(cases a<;>exact b5 h))
theorem YA {d0:Bool} {A1:Option α} (h:(match d0 with|true=>none|false=>A1)=some r) (K1:d0=false->(A1)=some r->R):R:=by
 generalize b8:d0=e0 at h
 cases e0 with
 |false=>exact K1 b8 h
 |true=>exact b5 h
theorem aBI {d0:CmpOp} {A0:Option α} (h:(match d0 with|CmpOp.Eq=>A0|_=>none)=some r) (K0:d0=CmpOp.Eq->(A0)=some r->R):R:=by
 generalize b8:d0=e0 at h
 cases e0 with
 |Eq=>exact K0 b8 h
 |_=>exact b5 h
theorem aBJ {d0:Bool} {A0:Bool} (h:(match d0 with|true=>A0|false=>false)=true) (K0:d0=true->(A0)=true->R):R:=by
 generalize b8:d0=e0 at h
 cases e0 with
 |false=>exact d9 h
 |true=>exact K0 b8 h
theorem aBK {d0:List (List Str)} {A0:(List Str)->(List (List Str))->Option α} (h:(match d0 with|x0::x1=>A0 x0 x1|[]=>none)=some r) (K0:∀x0 x1,d0=x0::x1->(A0 x0 x1)=some r->R):R:=by
 generalize b8:d0=e0 at h
 cases e0 with
 |nil=>exact b5 h
 |cons y1 y2=>exact K0 _ _ b8 h
theorem aBL {d0:List SV} {A0:Nat->Option α} {A1:Int->Option α} {A2:Nat->(Array UInt8)->Option α} {A3:Nat->SV->Option α} (h:(match d0 with|[SV.obj x0]=>A0 x0|[SV.int x0]=>A1 x0|[SV.bytes x0 x1]=>A2 x0 x1|[SV.obj x0,x1]=>A3 x0 x1|_=>none)=some r) (K0:∀x0,d0=[SV.obj x0]->(A0 x0)=some r->R) (K1:∀x0,d0=[SV.int x0]->(A1 x0)=some r->R) (K2:∀x0 x1,d0=[SV.bytes x0 x1]->(A2 x0 x1)=some r->R) (K3:∀x0 x1,d0=[SV.obj x0,x1]->(A3 x0 x1)=some r->R):R:=by
 generalize b8:d0=e0 at h
 cases e0 with
 |nil=>exact b5 h
 |cons a l=>cases a with
  |obj x=>cases l with
   |nil=>exact K0 _ b8 h
   |cons b t=>cases t with
    |nil=>exact K3 _ _ b8 h
    |cons c q=>exact b5 h
  |int x=>cases l with
   |nil=>exact K1 _ b8 h
   |cons b t=>exact b5 h
  |bytes x y=>cases l with
   |nil=>exact K2 _ _ b8 h
   |cons b t=>exact b5 h
  |_=>exact b5 h
theorem YB {d0:Option SO} {A0:Nat->(List SV)->Option α} (h:(match d0 with|some (SO.listB x0 x1)=>A0 x0 x1|_=>none)=some r) (K0:∀x0 x1,d0=some (SO.listB x0 x1)->(A0 x0 x1)=some r->R):R:=by
 generalize b8:d0=e0 at h
 cases e0 with
 |none=>exact b5 h
 |some y1=>
   cases y1 with
   |listB y2 y3=>exact K0 _ _ b8 h
   |_=>exact b5 h
theorem YC {d0:List SV} {A0:Nat->Option α} (h:(match d0 with|[SV.obj x0]=>A0 x0|_=>none)=some r) (K0:∀x0,d0=[SV.obj x0]->(A0 x0)=some r->R):R:=by
 generalize b8:d0=e0 at h
 cases e0 with
 |nil=>exact b5 h
 |cons a l=>cases a with
  |obj x=>cases l with
   |nil=>exact K0 _ b8 h
   |cons b t=>exact b5 h
  |_=>exact b5 h
theorem YD {d0:Option SO} {A0:(List SV)->Option α} (h:(match d0 with|some (SO.list x0)=>A0 x0|_=>none)=some r) (K0:∀x0,d0=some (SO.list x0)->(A0 x0)=some r->R):R:=by
 generalize b8:d0=e0 at h
 cases e0 with
 |none=>exact b5 h
 |some y1=>
   cases y1 with
   |list y2=>exact K0 _ b8 h
   |_=>exact b5 h
theorem aBM {d0:List SV} {A0:Nat->Option α} {A1:Nat->SV->Option α} (h:(match d0 with|[SV.obj x0]=>A0 x0|[SV.obj x0,x1]=>A1 x0 x1|_=>none)=some r) (K0:∀x0,d0=[SV.obj x0]->(A0 x0)=some r->R) (K1:∀x0 x1,d0=[SV.obj x0,x1]->(A1 x0 x1)=some r->R):R:=by
 generalize b8:d0=e0 at h
 cases e0 with
 |nil=>exact b5 h
 |cons a l=>cases a with
  |obj x=>cases l with
   |nil=>exact K0 _ b8 h
   |cons b t=>cases t with
    |nil=>exact K1 _ _ b8 h
    |cons c q=>exact b5 h
  |_=>exact b5 h
theorem YE {d0:Option SO} {A0:(List SV)->Option α} {A1:(List (Str×SV))->Option α} (h:(match d0 with|some (SO.list x0)=>A0 x0|some (SO.ud x0)=>A1 x0|_=>none)=some r) (K0:∀x0,d0=some (SO.list x0)->(A0 x0)=some r->R) (K1:∀x0,d0=some (SO.ud x0)->(A1 x0)=some r->R):R:=by
 generalize b8:d0=e0 at h
 cases e0 with
 |none=>exact b5 h
 |some y1=>
   cases y1 with
   |list y2=>exact K0 _ b8 h
   |ud y3=>exact K1 _ b8 h
   |_=>exact b5 h
theorem aBN {d0:Option SV} {A0:SV->Option α} (h:(match d0 with|some x0=>A0 x0|none=>none)=some r) (K0:∀x0,d0=some x0->(A0 x0)=some r->R):R:=by
 generalize b8:d0=e0 at h
 cases e0 with
 |none=>exact b5 h
 |some y1=>exact K0 _ b8 h
theorem wY {d0:Option (List Str)} {A0:(List Str)->Option α} (h:(match d0 with|some x0=>A0 x0|none=>none)=some r) (K0:∀x0,d0=some x0->(A0 x0)=some r->R):R:=by
 generalize b8:d0=e0 at h
 cases e0 with
 |none=>exact b5 h
 |some y1=>exact K0 _ b8 h
theorem aBO {d0:SV} {A0:Int->Option α} (h:(match d0 with|SV.int x0=>A0 x0|_=>none)=some r) (K0:∀x0,d0=SV.int x0->(A0 x0)=some r->R):R:=by
 generalize b8:d0=e0 at h
 cases e0 with
 |int y1=>exact K0 _ b8 h
 |_=>exact b5 h
theorem aBP {d0:Option (List Int)} {A0:(List Int)->Option α} (h:(match d0 with|some x0=>A0 x0|none=>none)=some r) (K0:∀x0,d0=some x0->(A0 x0)=some r->R):R:=by
 generalize b8:d0=e0 at h
 cases e0 with
 |none=>exact b5 h
 |some y1=>exact K0 _ b8 h
theorem aBQ {d0:List UInt8} {A0:UInt8->Bool} (h:(match d0 with|[x0]=>A0 x0|_=>false)=true) (K0:∀x0,d0=[x0]->(A0 x0)=true->R):R:=by
 generalize b8:d0=e0 at h
 cases e0 with
 |nil=>exact d9 h
 |cons y1 y2=>
   cases y2 with
   |nil=>exact K0 _ b8 h
   |cons y3 y4=>exact d9 h
theorem aBR {d0:Option SO} {A0:Str->(List SV)->Option α} (h:(match d0 with|some (SO.tup (SV.str x0::x1))=>A0 x0 x1|_=>none)=some r) (K0:∀x0 x1,d0=some (SO.tup (SV.str x0::x1))->(A0 x0 x1)=some r->R):R:=by
 generalize b8:d0=e0 at h
 cases e0 with
 |none=>exact b5 h
 |some o=>cases o with
  |tup l=>cases l with
   |nil=>exact b5 h
   |cons a t=>cases a with
    |str x=>exact K0 _ _ b8 h
    |_=>exact b5 h
  |_=>exact b5 h
theorem aBS {d0:Option Str} {d1:Option Str} {A0:Str->Str->Option α} (h:(match d0,d1 with|some x0,some x1=>A0 x0 x1|_,_=>none)=some r) (K0:∀x0 x1,d0=some x0->d1=some x1->(A0 x0 x1)=some r->R):R:=by
 generalize b8:d0=e0 at h
 generalize l5:d1=e1 at h
 cases e0 with
 |none=>exact b5 h
 |some y1=>
   cases e1 with
   |none=>exact b5 h
   |some y2=>exact K0 _ _ b8 l5 h
theorem aBT {d0:List SV} {A0:Nat->Nat->Option α} (h:(match d0 with|[SV.obj x0,SV.obj x1]=>A0 x0 x1|_=>none)=some r) (K0:∀x0 x1,d0=[SV.obj x0,SV.obj x1]->(A0 x0 x1)=some r->R):R:=by
 generalize b8:d0=e0 at h
 cases e0 with
 |nil=>exact b5 h
 |cons a l=>cases a with
  |obj x=>cases l with
   |nil=>exact b5 h
   |cons b t=>cases b with
    |obj y=>cases t with
     |nil=>exact K0 _ _ b8 h
     |cons c q=>exact b5 h
    |_=>exact b5 h
  |_=>exact b5 h
theorem aBU {d0:Option SO} {d1:Option SO} {A0:Nat->(List SV)->(List SV)->Option α} (h:(match d0,d1 with|some (SO.listB x0 x1),some (SO.list x2)=>A0 x0 x1 x2|_,_=>none)=some r) (K0:∀x0 x1 x2,d0=some (SO.listB x0 x1)->d1=some (SO.list x2)->(A0 x0 x1 x2)=some r->R):R:=by
 generalize b8:d0=e0 at h
 generalize l5:d1=e1 at h
 cases e0 with
 |none=>exact b5 h
 |some y1=>
   cases y1 with
   |listB y2 y3=>
     cases e1 with
     |none=>exact b5 h
     |some y4=>
       cases y4 with
       |list y5=>exact K0 _ _ _ b8 l5 h
       |_=>exact b5 h
   |_=>exact b5 h
theorem aBV {d0:SV} {A0:Str->Option α} {A1:Nat->Option α} (h:(match d0 with|SV.str x0=>A0 x0|SV.obj x0=>A1 x0|_=>none)=some r) (K0:∀x0,d0=SV.str x0->(A0 x0)=some r->R) (K1:∀x0,d0=SV.obj x0->(A1 x0)=some r->R):R:=by
 generalize b8:d0=e0 at h
 cases e0 with
 |str y1=>exact K0 _ b8 h
 |obj y2=>exact K1 _ b8 h
 |_=>exact b5 h
theorem YF {d0:Option SO} {A0:(List SV)->Option α} (h:(match d0 with|some (SO.tup x0)=>A0 x0|_=>none)=some r) (K0:∀x0,d0=some (SO.tup x0)->(A0 x0)=some r->R):R:=by
 generalize b8:d0=e0 at h
 cases e0 with
 |none=>exact b5 h
 |some y1=>
   cases y1 with
   |tup y2=>exact K0 _ b8 h
   |_=>exact b5 h
theorem aBW {d0:List SV} {A0:Nat->(Array UInt8)->Nat->(Array UInt8)->Option α} (h:(match d0 with|[SV.bytes x0 x1,SV.bytes x2 x3]=>A0 x0 x1 x2 x3|_=>none)=some r) (K0:∀x0 x1 x2 x3,d0=[SV.bytes x0 x1,SV.bytes x2 x3]->(A0 x0 x1 x2 x3)=some r->R):R:=by
 generalize b8:d0=e0 at h
 cases e0 with
 |nil=>exact b5 h
 |cons a l=>cases a with
  |bytes x x'=>cases l with
   |nil=>exact b5 h
   |cons b t=>cases b with
    |bytes y y'=>cases t with
     |nil=>exact K0 _ _ _ _ b8 h
     |cons c q=>exact b5 h
    |_=>exact b5 h
  |_=>exact b5 h
theorem aBX {d0:Option SO} {A0:(List (Str×SV))->Option α} {A1:(List SV)->Option α} (h:(match d0 with|some (SO.ud x0)=>A0 x0|some (SO.list x0)=>A1 x0|_=>none)=some r) (K0:∀x0,d0=some (SO.ud x0)->(A0 x0)=some r->R) (K1:∀x0,d0=some (SO.list x0)->(A1 x0)=some r->R):R:=by
 generalize b8:d0=e0 at h
 cases e0 with
 |none=>exact b5 h
 |some y1=>
   cases y1 with
   |ud y2=>exact K0 _ b8 h
   |list y3=>exact K1 _ b8 h
   |_=>exact b5 h
theorem aBY {d0:List SV} {A0:Option α} {A1:SV->Option α} {A2:SV->SV->Option α} (h:(match d0 with|[]=>A0|[x0]=>A1 x0|[x0,x1]=>A2 x0 x1|_=>none)=some r) (K0:d0=[]->(A0)=some r->R) (K1:∀x0,d0=[x0]->(A1 x0)=some r->R) (K2:∀x0 x1,d0=[x0,x1]->(A2 x0 x1)=some r->R):R:=by
 generalize b8:d0=e0 at h
 cases e0 with
 |nil=>exact K0 b8 h
 |cons y1 y2=>
   cases y2 with
   |nil=>exact K1 _ b8 h
   |cons y3 y4=>
     cases y4 with
     |nil=>exact K2 _ _ b8 h
     |cons y5 y6=>exact b5 h
theorem aBZ {d0:List SV} {A0:Nat->Tr α} {A1:Int->Tr α} (h:(match d0 with|[SV.obj x0]=>A0 x0|[SV.int x0]=>A1 x0|_=>Tr.no).wp φ) (K0:∀x0,d0=[SV.obj x0]->(A0 x0).wp φ->R) (K1:∀x0,d0=[SV.int x0]->(A1 x0).wp φ->R):R:=by
 generalize b8:d0=e0 at h
 cases e0 with
 |nil=>exact h.elim
 |cons a l=>cases a with
  |obj x=>cases l with
   |nil=>exact K0 _ b8 h
   |cons b t=>exact h.elim
  |int x=>cases l with
   |nil=>exact K1 _ b8 h
   |cons b t=>exact h.elim
  |_=>exact h.elim
theorem aBa {d0:Option SO} {A0:(List SV)->Tr α} {A1:Nat->(List SV)->Tr α} (h:(match d0 with|some (SO.list x0)=>A0 x0|some (SO.listB x0 x1)=>A1 x0 x1|_=>Tr.no).wp φ) (K0:∀x0,d0=some (SO.list x0)->(A0 x0).wp φ->R) (K1:∀x0 x1,d0=some (SO.listB x0 x1)->(A1 x0 x1).wp φ->R):R:=by
 generalize b8:d0=e0 at h
 cases e0 with
 |none=>exact h.elim
 |some y1=>
   cases y1 with
   |list y2=>exact K0 _ b8 h
   |listB y3 y4=>exact K1 _ _ b8 h
   |_=>exact h.elim
theorem aBb {d0:Option (List Int)} {A0:(List Int)->Tr α} (h:(match d0 with|some x0=>A0 x0|none=>Tr.no).wp φ) (K0:∀x0,d0=some x0->(A0 x0).wp φ->R):R:=by
 generalize b8:d0=e0 at h
 cases e0 with
 |none=>exact h.elim
 |some y1=>exact K0 _ b8 h
theorem aBc {d0:SV} {A0:Nat->Option α} {A1:Value->Option α} {A2:Nat->(Array UInt8)->Option α} (h:(match d0 with|SV.obj x0=>A0 x0|SV.lit x0=>A1 x0|SV.bytes x0 x1=>A2 x0 x1|_=>none)=some r) (K0:∀x0,d0=SV.obj x0->(A0 x0)=some r->R) (K1:∀x0,d0=SV.lit x0->(A1 x0)=some r->R) (K2:∀x0 x1,d0=SV.bytes x0 x1->(A2 x0 x1)=some r->R):R:=by
 generalize b8:d0=e0 at h
 cases e0 with
 |obj y1=>exact K0 _ b8 h
 |lit y2=>exact K1 _ b8 h
 |bytes y3 y4=>exact K2 _ _ b8 h
 |_=>exact b5 h
theorem aBd {d0:Option SO} {A0:Addr->Nat->Option α} {A1:Nat->(List SV)->Option α} {A2:(List SV)->Option α} (h:(match d0 with|some (SO.inst x0 x1)=>A0 x0 x1|some (SO.listB x0 x1)=>A1 x0 x1|some (SO.list x0)=>A2 x0|_=>none)=some r) (K0:∀x0 x1,d0=some (SO.inst x0 x1)->(A0 x0 x1)=some r->R) (K1:∀x0 x1,d0=some (SO.listB x0 x1)->(A1 x0 x1)=some r->R) (K2:∀x0,d0=some (SO.list x0)->(A2 x0)=some r->R):R:=by
 generalize b8:d0=e0 at h
 cases e0 with
 |none=>exact b5 h
 |some y1=>
   cases y1 with
   |inst y2 y3=>exact K0 _ _ b8 h
   |listB y4 y5=>exact K1 _ _ b8 h
   |list y6=>exact K2 _ b8 h
   |_=>exact b5 h
theorem YG {d0:Option SO} {A0:(List (Str×SV))->Option α} (h:(match d0 with|some (SO.dict x0)=>A0 x0|_=>none)=some r) (K0:∀x0,d0=some (SO.dict x0)->(A0 x0)=some r->R):R:=by
 generalize b8:d0=e0 at h
 cases e0 with
 |none=>exact b5 h
 |some y1=>
   cases y1 with
   |dict y2=>exact K0 _ b8 h
   |_=>exact b5 h
theorem aBe {d0:Option SV} {A0:Option α} (h:(match d0 with|none=>A0|some _=>none)=some r) (K0:d0=none->(A0)=some r->R):R:=by
 generalize b8:d0=e0 at h
 cases e0 with
 |none=>exact K0 b8 h
 |some y1=>exact b5 h
theorem YH {d0:Option (List (Str×Addr))} {A0:(List (Str×Addr))->Option α} (h:(match d0 with|some x0=>A0 x0|none=>none)=some r) (K0:∀x0,d0=some x0->(A0 x0)=some r->R):R:=by
 generalize b8:d0=e0 at h
 cases e0 with
 |none=>exact b5 h
 |some y1=>exact K0 _ b8 h
theorem YI {d0:Option Addr} {A0:Addr->Option α} (h:(match d0 with|some x0=>A0 x0|none=>none)=some r) (K0:∀x0,d0=some x0->(A0 x0)=some r->R):R:=by
 generalize b8:d0=e0 at h
 cases e0 with
 |none=>exact b5 h
 |some y1=>exact K0 _ b8 h
theorem aBf {d0:Value} {A0:Addr->Option α} (h:(match d0 with|Value.ref x0=>A0 x0|_=>none)=some r) (K0:∀x0,d0=Value.ref x0->(A0 x0)=some r->R):R:=by
 generalize b8:d0=e0 at h
 cases e0 with
 |ref y1=>exact K0 _ b8 h
 |_=>exact b5 h
theorem Q1 {d0:Option Value} {A0:Value->Bool} (h:(match d0 with|some x0=>A0 x0|none=>false)=true) (K0:∀x0,d0=some x0->(A0 x0)=true->R):R:=by
 generalize b8:d0=e0 at h
 cases e0 with
 |none=>exact d9 h
 |some y1=>exact K0 _ b8 h
theorem aBg {d0:Option CFound} {A0:Value->Bool} (h:(match d0 with|some (CFound.val x0)=>A0 x0|_=>false)=true) (K0:∀x0,d0=some (CFound.val x0)->(A0 x0)=true->R):R:=by
 generalize b8:d0=e0 at h
 cases e0 with
 |none=>exact d9 h
 |some y1=>
   cases y1 with
   |val y2=>exact K0 _ b8 h
   |_=>exact d9 h
theorem ME {d0:SV} {A0:Nat->Option α} (h:(match d0 with|SV.obj x0=>A0 x0|_=>none)=some r) (K0:∀x0,d0=SV.obj x0->(A0 x0)=some r->R):R:=by
 generalize b8:d0=e0 at h
 cases e0 with
 |obj y1=>exact K0 _ b8 h
 |_=>exact b5 h
theorem aBh {d0:Option SO} {A0:Addr->Nat->Option α} (h:(match d0 with|some (SO.inst x0 x1)=>A0 x0 x1|_=>none)=some r) (K0:∀x0 x1,d0=some (SO.inst x0 x1)->(A0 x0 x1)=some r->R):R:=by
 generalize b8:d0=e0 at h
 cases e0 with
 |none=>exact b5 h
 |some y1=>
   cases y1 with
   |inst y2 y3=>exact K0 _ _ b8 h
   |_=>exact b5 h
theorem aBi {d0:Option SO} {A0:(List (Str×SV))->Option α} (h:(match d0 with|some (SO.ud x0)=>A0 x0|_=>none)=some r) (K0:∀x0,d0=some (SO.ud x0)->(A0 x0)=some r->R):R:=by
 generalize b8:d0=e0 at h
 cases e0 with
 |none=>exact b5 h
 |some y1=>
   cases y1 with
   |ud y2=>exact K0 _ b8 h
   |_=>exact b5 h
theorem aBj {d0:SV} {A0:Str->Option α} (h:(match d0 with|SV.str x0=>A0 x0|_=>none)=some r) (K0:∀x0,d0=SV.str x0->(A0 x0)=some r->R):R:=by
 generalize b8:d0=e0 at h
 cases e0 with
 |str y1=>exact K0 _ b8 h
 |_=>exact b5 h
theorem aBk {d0:Option NameKind} {A0:Bool} (h:(match d0 with|some NameKind.local=>A0|_=>false)=true) (K0:d0=some NameKind.local->(A0)=true->R):R:=by
 generalize b8:d0=e0 at h
 cases e0 with
 |none=>exact d9 h
 |some y1=>
   cases y1 with
   |«local»=>exact K0 b8 h
   |_=>exact d9 h
theorem aBl {d0:Option NameKind} {A0:Option α} (h:(match d0 with|some NameKind.cell=>A0|_=>none)=some r) (K0:d0=some NameKind.cell->(A0)=some r->R):R:=by
 generalize b8:d0=e0 at h
 cases e0 with
 |none=>exact b5 h
 |some y1=>
   cases y1 with
   |cell=>exact K0 b8 h
   |_=>exact b5 h
theorem YJ {d0:Option SV} {A0:Nat->Option α} (h:(match d0 with|some (SV.cell x0)=>A0 x0|_=>none)=some r) (K0:∀x0,d0=some (SV.cell x0)->(A0 x0)=some r->R):R:=by
 generalize b8:d0=e0 at h
 cases e0 with
 |none=>exact b5 h
 |some y1=>
   cases y1 with
   |cell y2=>exact K0 _ b8 h
   |_=>exact b5 h
theorem aBm {d0:Option SO} {A0:(Option SV)->Option α} (h:(match d0 with|some (SO.cell x0)=>A0 x0|_=>none)=some r) (K0:∀x0,d0=some (SO.cell x0)->(A0 x0)=some r->R):R:=by
 generalize b8:d0=e0 at h
 cases e0 with
 |none=>exact b5 h
 |some y1=>
   cases y1 with
   |cell y2=>exact K0 _ b8 h
   |_=>exact b5 h
theorem qC {d0:SV} {A0:Nat->Tr α} (h:(match d0 with|SV.obj x0=>A0 x0|_=>Tr.no).wp φ) (K0:∀x0,d0=SV.obj x0->(A0 x0).wp φ->R):R:=by
 generalize b8:d0=e0 at h
 cases e0 with
 |obj y1=>exact K0 _ b8 h
 |_=>exact h.elim
theorem YK {d0:Option SO} {A0:SV->SV->Tr α} (h:(match d0 with|some (SO.tup [x0,x1])=>A0 x0 x1|_=>Tr.no).wp φ) (K0:∀x0 x1,d0=some (SO.tup [x0,x1])->(A0 x0 x1).wp φ->R):R:=by
 generalize b8:d0=e0 at h
 cases e0 with
 |none=>exact h.elim
 |some y1=>
   cases y1 with
   |tup y2=>
     cases y2 with
     |nil=>exact h.elim
     |cons y3 y4=>
       cases y4 with
       |nil=>exact h.elim
       |cons y5 y6=>
         cases y6 with
         |nil=>exact K0 _ _ b8 h
         |cons y7 y8=>exact h.elim
   |_=>exact h.elim
theorem aBn {d0:Option SO} {A0:Bool} (h:(match d0 with|some SO.fz=>A0|_=>false)=true) (K0:d0=some SO.fz->(A0)=true->R):R:=by
 generalize b8:d0=e0 at h
 cases e0 with
 |none=>exact d9 h
 |some y1=>
   cases y1 with
   |fz=>exact K0 b8 h
   |_=>exact d9 h
theorem YL {d0:Expr} {A0:Str->Pos->Option α} (h:(match d0 with|Expr.Name x0 x1=>A0 x0 x1|_=>none)=some r) (K0:∀x0 x1,d0=Expr.Name x0 x1->(A0 x0 x1)=some r->R):R:=by
 generalize b8:d0=e0 at h
 cases e0 with
 |Name y1 y2=>exact K0 _ _ b8 h
 |_=>exact b5 h
theorem Q2 {d0:Option (List SO×Loc)} {A0:(List SO×Loc)->Option α} (h:(match d0 with|some x0=>A0 x0|none=>none)=some r) (K0:∀x0,d0=some x0->(A0 x0)=some r->R):R:=by
 generalize b8:d0=e0 at h
 cases e0 with
 |none=>exact b5 h
 |some y1=>exact K0 _ b8 h
theorem aBo {d0:Expr} {A0:Str->Pos->Option α} {A1:(List Expr)->Nat->Pos->Option α} (h:(match d0 with|Expr.Name x0 x1=>A0 x0 x1|Expr.Tuple x0 x1 x2=>A1 x0 x1 x2|_=>none)=some r) (K0:∀x0 x1,d0=Expr.Name x0 x1->(A0 x0 x1)=some r->R) (K1:∀x0 x1 x2,d0=Expr.Tuple x0 x1 x2->(A1 x0 x1 x2)=some r->R):R:=by
 generalize b8:d0=e0 at h
 cases e0 with
 |Name y1 y2=>exact K0 _ _ b8 h
 |Tuple y3 y4 y5=>exact K1 _ _ _ b8 h
 |_=>exact b5 h
theorem aBp {d0:Option (List SO×Loc)} {A0:(List SO×Loc)->Tr α} (h:(match d0 with|some x0=>A0 x0|none=>Tr.no).wp φ) (K0:∀x0,d0=some x0->(A0 x0).wp φ->R):R:=by
 generalize b8:d0=e0 at h
 cases e0 with
 |none=>exact h.elim
 |some y1=>exact K0 _ b8 h
theorem aBq {d0:Option SO} {A0:(List (Str×SV))->Bool} (h:(match d0 with|some (SO.pud x0)=>A0 x0|_=>false)=true) (K0:∀x0,d0=some (SO.pud x0)->(A0 x0)=true->R):R:=by
 generalize b8:d0=e0 at h
 cases e0 with
 |none=>exact d9 h
 |some y1=>
   cases y1 with
   |pud y2=>exact K0 _ b8 h
   |_=>exact d9 h
theorem YM {d0:Option NameKind} {A0:Bool} (h:(match d0 with|some NameKind.globalImplicit=>A0|_=>false)=true) (K0:d0=some NameKind.globalImplicit->(A0)=true->R):R:=by
 generalize b8:d0=e0 at h
 cases e0 with
 |none=>exact d9 h
 |some y1=>
   cases y1 with
   |globalImplicit=>exact K0 b8 h
   |_=>exact d9 h
theorem YN {d0:Option Value} {A0:Bool} (h:(match d0 with|none=>A0|some _=>false)=true) (K0:d0=none->(A0)=true->R):R:=by
 generalize b8:d0=e0 at h
 cases e0 with
 |none=>exact K0 b8 h
 |some y1=>exact d9 h
theorem YO {d0:Value} {A0:String->Bool} (h:(match d0 with|Value.type x0=>A0 x0|_=>false)=true) (K0:∀x0,d0=Value.type x0->(A0 x0)=true->R):R:=by
 generalize b8:d0=e0 at h
 cases e0 with
 |type y1=>exact K0 _ b8 h
 |_=>exact d9 h
theorem wZ {d0:Option SO} {A0:(List SV)->Tr α} (h:(match d0 with|some (SO.list x0)=>A0 x0|_=>Tr.no).wp φ) (K0:∀x0,d0=some (SO.list x0)->(A0 x0).wp φ->R):R:=by
 generalize b8:d0=e0 at h
 cases e0 with
 |none=>exact h.elim
 |some y1=>
   cases y1 with
   |list y2=>exact K0 _ b8 h
   |_=>exact h.elim
theorem aBr {d0:Option SO} {A0:(List SV)->Tr α} {A1:(List (Str×SV))->Tr α} (h:(match d0 with|some (SO.list x0)=>A0 x0|some (SO.ud x0)=>A1 x0|_=>Tr.no).wp φ) (K0:∀x0,d0=some (SO.list x0)->(A0 x0).wp φ->R) (K1:∀x0,d0=some (SO.ud x0)->(A1 x0).wp φ->R):R:=by
 generalize b8:d0=e0 at h
 cases e0 with
 |none=>exact h.elim
 |some y1=>
   cases y1 with
   |list y2=>exact K0 _ b8 h
   |ud y3=>exact K1 _ b8 h
   |_=>exact h.elim
theorem aBs {d0:Option Loc} {A0:Loc->Option α} (h:(match d0 with|some x0=>A0 x0|none=>none)=some r) (K0:∀x0,d0=some x0->(A0 x0)=some r->R):R:=by
 generalize b8:d0=e0 at h
 cases e0 with
 |none=>exact b5 h
 |some y1=>exact K0 _ b8 h
theorem aBt {d0:Option NameKind} {A0:NameKind->Bool} (h:(match d0 with|some x0=>A0 x0|none=>false)=true) (K0:∀x0,d0=some x0->(A0 x0)=true->R):R:=by
 generalize b8:d0=e0 at h
 cases e0 with
 |none=>exact d9 h
 |some y1=>exact K0 _ b8 h
theorem aBu {d0:ScopeKind} {A0:Bool} (h:(match d0 with|ScopeKind.function=>A0|_=>false)=true) (K0:d0=ScopeKind.function->(A0)=true->R):R:=by
 generalize b8:d0=e0 at h
 cases e0 with
 |function=>exact K0 b8 h
 |_=>exact d9 h
theorem MF {d0:Option Scope} {A1:Tr α} (h:(match d0 with|some _=>Tr.no|none=>A1).wp φ) (K1:d0=none->(A1).wp φ->R):R:=by
 generalize b8:d0=e0 at h
 cases e0 with
 |none=>exact K1 b8 h
 |some y1=>exact h.elim
theorem YQ {d0:Option (Str×Expr×Option Expr)} {A0:Str->Expr->(Option Expr)->Tr α} (h:(match d0 with|some (x0,x1,x2)=>A0 x0 x1 x2|none=>Tr.no).wp φ) (K0:∀x0 x1 x2,d0=some (x0,x1,x2)->(A0 x0 x1 x2).wp φ->R):R:=by
 generalize b8:d0=e0 at h
 cases e0 with
 |none=>exact h.elim
 |some y1=>
   cases y1 with
   |mk y2 y3=>
     cases y3 with
     |mk y4 y5=>exact K0 _ _ _ b8 h
theorem MG {d0:Option Loc} {A0:Loc->Tr α} (h:(match d0 with|some x0=>A0 x0|none=>Tr.no).wp φ) (K0:∀x0,d0=some x0->(A0 x0).wp φ->R):R:=by
 generalize b8:d0=e0 at h
 cases e0 with
 |none=>exact h.elim
 |some y1=>exact K0 _ b8 h
theorem aBv {d0:SV} {d1:SV} {A0:Nat->Nat->Tr α} (h:(match d0,d1 with|SV.obj x0,SV.int (Int.ofNat x1)=>A0 x0 x1|_,_=>Tr.no).wp φ) (K0:∀x0 x1,d0=SV.obj x0->d1=SV.int (Int.ofNat x1)->(A0 x0 x1).wp φ->R):R:=by
 generalize b8:d0=e0 at h
 generalize l5:d1=e1 at h
 cases e0 with
 |obj y1=>
   cases e1 with
   |int y2=>
     cases y2 with
     |ofNat y3=>exact K0 _ _ b8 l5 h
     |_=>exact h.elim
   |_=>exact h.elim
 |_=>exact h.elim
theorem aBw {d0:Expr} {A0:(List Expr)->Nat->Pos->Tr α} (h:(match d0 with|Expr.Tuple x0 x1 x2=>A0 x0 x1 x2|_=>Tr.no).wp φ) (K0:∀x0 x1 x2,d0=Expr.Tuple x0 x1 x2->(A0 x0 x1 x2).wp φ->R):R:=by
 generalize b8:d0=e0 at h
 cases e0 with
 |Tuple y1 y2 y3=>exact K0 _ _ _ b8 h
 |_=>exact h.elim
theorem YR {d0:Option NameKind} {A0:Bool} (h:(match d0 with|some NameKind.cell=>A0|_=>false)=true) (K0:d0=some NameKind.cell->(A0)=true->R):R:=by
 generalize b8:d0=e0 at h
 cases e0 with
 |none=>exact d9 h
 |some y1=>
   cases y1 with
   |cell=>exact K0 b8 h
   |_=>exact d9 h
theorem aBx {d0:Option (Option (List Str))} {A0:(List Str)->Tr α} (h:(match d0 with|some (some x0)=>A0 x0|_=>Tr.no).wp φ) (K0:∀x0,d0=some (some x0)->(A0 x0).wp φ->R):R:=by
 generalize b8:d0=e0 at h
 cases e0 with
 |none=>exact h.elim
 |some y1=>
   cases y1 with
   |none=>exact h.elim
   |some y2=>exact K0 _ b8 h
theorem aBy {d0:Option Bool} {A0:Tr α} (h:(match d0 with|some false=>A0|_=>Tr.no).wp φ) (K0:d0=some false->(A0).wp φ->R):R:=by
 generalize b8:d0=e0 at h
 cases e0 with
 |none=>exact h.elim
 |some y1=>
   cases y1 with
   |false=>exact K0 b8 h
   |true=>exact h.elim
theorem aBz {d0:Option SO} {A0:(List SV)->Tr α} (h:(match d0 with|some (SO.tup x0)=>A0 x0|_=>Tr.no).wp φ) (K0:∀x0,d0=some (SO.tup x0)->(A0 x0).wp φ->R):R:=by
 generalize b8:d0=e0 at h
 cases e0 with
 |none=>exact h.elim
 |some y1=>
   cases y1 with
   |tup y2=>exact K0 _ b8 h
   |_=>exact h.elim
theorem aC0 {d0:SV} {d1:SV} {A0:Str->Int->Tr α} (h:(match d0,d1 with|SV.str x0,SV.int x1=>A0 x0 x1|_,_=>Tr.no).wp φ) (K0:∀x0 x1,d0=SV.str x0->d1=SV.int x1->(A0 x0 x1).wp φ->R):R:=by
 generalize b8:d0=e0 at h
 generalize l5:d1=e1 at h
 cases e0 with
 |str y1=>
   cases e1 with
   |int y2=>exact K0 _ _ b8 l5 h
   |_=>exact h.elim
 |_=>exact h.elim
theorem YS {d0:Option Expr} {A0:Expr->Tr α} (h:(match d0 with|some x0=>A0 x0|none=>Tr.no).wp φ) (K0:∀x0,d0=some x0->(A0 x0).wp φ->R):R:=by
 generalize b8:d0=e0 at h
 cases e0 with
 |none=>exact h.elim
 |some y1=>exact K0 _ b8 h
theorem YT {d0:SV} {A0:Nat->Tr α} (h:(match d0 with|SV.int (Int.ofNat x0)=>A0 x0|_=>Tr.no).wp φ) (K0:∀x0,d0=SV.int (Int.ofNat x0)->(A0 x0).wp φ->R):R:=by
 generalize b8:d0=e0 at h
 cases e0 with
 |int y1=>
   cases y1 with
   |ofNat y2=>exact K0 _ b8 h
   |_=>exact h.elim
 |_=>exact h.elim
theorem aC1 {d0:Option (Str×Expr×Option Expr)} {A0:Str->Expr->Tr α} (h:(match d0 with|some (x0,x1,none)=>A0 x0 x1|_=>Tr.no).wp φ) (K0:∀x0 x1,d0=some (x0,x1,none)->(A0 x0 x1).wp φ->R):R:=by
 generalize b8:d0=e0 at h
 cases e0 with
 |none=>exact h.elim
 |some y1=>
   cases y1 with
   |mk y2 y3=>
     cases y3 with
     |mk y4 y5=>
       cases y5 with
       |none=>exact K0 _ _ b8 h
       |some y6=>exact h.elim
theorem aC2 {d0:Option (SV×SV)} {A0:(SV×SV)->Tr α} (h:(match d0 with|some x0=>A0 x0|none=>Tr.no).wp φ) (K0:∀x0,d0=some x0->(A0 x0).wp φ->R):R:=by
 generalize b8:d0=e0 at h
 cases e0 with
 |none=>exact h.elim
 |some y1=>exact K0 _ b8 h
theorem aC3 {d0:Option SO} {A0:SV->SV->Option α} (h:(match d0 with|some (SO.tup [x0,x1])=>A0 x0 x1|_=>none)=some r) (K0:∀x0 x1,d0=some (SO.tup [x0,x1])->(A0 x0 x1)=some r->R):R:=by
 generalize b8:d0=e0 at h
 cases e0 with
 |none=>exact b5 h
 |some y1=>
   cases y1 with
   |tup y2=>
     cases y2 with
     |nil=>exact b5 h
     |cons y3 y4=>
       cases y4 with
       |nil=>exact b5 h
       |cons y5 y6=>
         cases y6 with
         |nil=>exact K0 _ _ b8 h
         |cons y7 y8=>exact b5 h
   |_=>exact b5 h
theorem XY {d0:Option (Str×Str×Expr)} {A0:Str->Str->Expr->Tr α} (h:(match d0 with|some (x0,x1,x2)=>A0 x0 x1 x2|none=>Tr.no).wp φ) (K0:∀x0 x1 x2,d0=some (x0,x1,x2)->(A0 x0 x1 x2).wp φ->R):R:=by
 generalize b8:d0=e0 at h
 cases e0 with
 |none=>exact h.elim
 |some y1=>
   cases y1 with
   |mk y2 y3=>
     cases y3 with
     |mk y4 y5=>exact K0 _ _ _ b8 h
theorem XZ {d0:Operator} {A0:Tr α} (h:(match d0 with|Operator.Add=>A0|_=>Tr.no).wp φ) (K0:d0=Operator.Add->(A0).wp φ->R):R:=by
 generalize b8:d0=e0 at h
 cases e0 with
 |Add=>exact K0 b8 h
 |_=>exact h.elim
theorem X1 {d0:SV} {d1:SV} {A0:Nat->Nat->Tr α} (h:(match d0,d1 with|SV.obj x0,SV.obj x1=>A0 x0 x1|_,_=>Tr.no).wp φ) (K0:∀x0 x1,d0=SV.obj x0->d1=SV.obj x1->(A0 x0 x1).wp φ->R):R:=by
 generalize b8:d0=e0 at h
 generalize l5:d1=e1 at h
 cases e0 with
 |obj y1=>
   cases e1 with
   |obj y2=>exact K0 _ _ b8 l5 h
   |_=>exact h.elim
 |_=>exact h.elim
theorem X3 {d0:Option (Nat×List SV)} {d1:Option (Nat×List SV)} {A0:(Nat×List SV)->(Nat×List SV)->Tr α} (h:(match d0,d1 with|some x0,some x1=>A0 x0 x1|_,_=>Tr.no).wp φ) (K0:∀x0 x1,d0=some x0->d1=some x1->(A0 x0 x1).wp φ->R):R:=by
 generalize b8:d0=e0 at h
 generalize l5:d1=e1 at h
 cases e0 with
 |none=>exact h.elim
 |some y1=>
   cases e1 with
   |none=>exact h.elim
   |some y2=>exact K0 _ _ b8 l5 h
theorem X4 {d0:Option SO} {A0:SO->Bool} (h:(match d0 with|some x0=>A0 x0|none=>false)=true) (K0:∀x0,d0=some x0->(A0 x0)=true->R):R:=by
 generalize b8:d0=e0 at h
 cases e0 with
 |none=>exact d9 h
 |some y1=>exact K0 _ b8 h
theorem X5 {d0:Option SV} {A0:Bool} (h:(match d0 with|none=>A0|some _=>false)=true) (K0:d0=none->(A0)=true->R):R:=by
 generalize b8:d0=e0 at h
 cases e0 with
 |none=>exact K0 b8 h
 |some y1=>exact d9 h
end
end Mine
end
section
open PySem PySem.W PyProof.Rows PySem.Calls
namespace Mine.R
open Mine
noncomputable def dbg:Str:="__debug__"
noncomputable def hOk:SV->Bool
 | .lit v=>match v with
  | .ref _=>true
  |_=>false
 |_=>true
theorem wM {v:SV} (h:hOk v=true) (r:RV ρ v u):handedIn u=true:=by
 cases v with
 |lit x=>cases x<;>first|(exact d9 h;done)|(have e:u=_:=r;subst e;rfl)
 |none=>cases r;rfl
 |bool b=>cases r;rfl
 |int n=>obtain⟨t,rfl⟩:=r;rfl
 |str n=>obtain⟨t,rfl⟩:=r;rfl
 |bytes n b=>obtain⟨⟨t,rfl⟩,_⟩:=r;rfl
 |obj i=>obtain⟨a,_,rfl⟩:=r;rfl
 |cell i=>exact r.elim
noncomputable def iQ {α:Type}:List (Addr×α)->Addr->Option α
 |[],_=>none
 |p::r,a=>match Nat.beq p.1 a with
  |true=>some p.2
  |false=>iQ r a
theorem iR {α:Type} {a:Addr} {v:α}:∀{l:List (Addr×α)},iQ l a=some v->(a,v)∈l
 |[],h=>nomatch h
 |p::r,h=>by
  unfold iQ at h
  cases e:Nat.beq p.1 a with
  |true=>
   rw[e] at h
   have:=bg e
   replace h:=oS h;subst h
   subst this
   exact .head _
  |false=>rw[e] at h;exact .tail _ (iR h)
theorem lA {α:Type} {a:Str} {v:α}:∀{l:List (Str×α)},lk l a=some v->(a,v)∈l
 |[],h=>nomatch h
 |p::r,h=>by
  unfold lk at h
  cases e:seq p.1 a with
  |true=>
   rw[e] at h
   have:=dI e
   replace h:=oS h;subst h
   subst this
   exact .head _
  |false=>rw[e] at h;exact .tail _ (lA h)
noncomputable def sI:List Str->Str->Bool
 |[],_=>false
 |n::r,x=>match seq n x with
  |true=>true
  |false=>sI r x
theorem t5 {x:Str}:∀{l:List Str},sI l x=true->x∈l
 |[],h=>nomatch h
 |n::r,h=>by
  unfold sI at h
  cases e:seq n x with
  |true=>rw[dI e];exact .head _
  |false=>rw[e] at h;exact .tail _ (t5 h)
noncomputable def PY (K:Frag) (C:Addr) (n:Str):Bool:=
 plainGet K C n&&hasDictIn K C&&(match findIn K (.ref C) n with|some a=>noGet K a|none=>false)&&
 (findIn K (.ref C) "__setattr__"==some (some (.builtin "object.__setattr__")))&&plainOver K C&&(takerIn K C n==some none)
noncomputable def QA (K:Frag) (C:Addr) (n:Str) (f:Addr):Bool:=
 plainGet K C n&&(findIn K (.ref C) n==some (some (.ref f)))&&isFn K (.ref f)&&keepIn K (.ref f)
noncomputable def QB (K:Frag) (C:Addr) (n:Str) (f:Addr):Bool:=
 (specialIn K (.ref C) "__getattribute__"==some (some (.builtin "type.__getattribute__")))&&(match typeIn K (.ref C) with
  |some mc=>readsIn K C mc&&(match findCls K (.ref C) mc n with
   |some (.val a)=>a==.ref f
   |_=>false)
  |none=>false)
noncomputable def PZ (K:Frag) (C f:Addr):Bool:=makesIn K C&&(findIn K (.ref C) "__init__"==some (some (.ref f)))&&isFn K (.ref f)&&keepIn K (.ref C)
structure RowOk (w:World) (r:FRow):Prop where
 fn:∃(name:Str) (params:Arguments) (dV kV doc pm ct oc:Value) (an od:Option Addr) (osl:Array (Option Value)) (dv:List Value),
  (K w.params).lookup r.f=some ⟨oc,od,.func (fnOf name r.qual params r.body r.scope dV kV doc pm an r.cdv ct),osl⟩/\
  (∀ρ,RVs ρ r.dfl dv)/\
  (∀(s:Shared) (args:List Value),(K w.params).In s.heap->args.length=r.ar->BindsTo s (fnOf name r.qual params r.body r.scope dV kV doc pm an r.cdv ct) ⟨args,[]⟩ (r.names.zip (args++dv)))
 code:codeIn (K w.params) r.cdv r.qual=true
 names:∀y∈r.names,r.scope.names.lookup y=some .local
 nd:r.names.Nodup
 len:r.names.length=r.ar+r.dfl.length
 co:r.scope.isCoroutine=false
 gen:r.scope.isGenerator=false
 kind:r.scope.kind=.function
 cell:((cellsFrom 0 r.scope.names []).map (·.1)).Nodup
structure TbOk (w:World) (tb:Tb):Prop where
 glob:∀q∈tb.glob,nsIn (K w.params) mainGlobals q.1=some (some q.2)
 blt:∀q∈tb.blt,nsIn (K w.params) mainGlobals q.1=some none/\bootBuiltins q.1=some q.2/\q.1≠"__name__"
 attr:∀q∈tb.attr,∀n∈q.2,PY (K w.params) q.1 n=true
 meth:∀q∈tb.meth,∀n∈q.2,QA (K w.params) q.1 n.1 n.2=true
 smeth:∀q∈tb.smeth,∀n∈q.2,QB (K w.params) q.1 n.1 n.2=true
 cls:∀q∈tb.cls,PZ (K w.params) q.1 q.2=true
 fns:∀r∈tb.fns,RowOk w r
noncomputable def zL:SV->Bool
 | .cell _=>false
 |_=>true
theorem PM {x:Str} {v:SV} (h:VL L mm ρ x v) (e:zL v=true):∃u,L.lk mm x=some u/\RV ρ v u:=by
 cases v<;>first|exact h|(exact d9 e;done)
theorem LH {h:Heap} {L:Addr} (N:News aY L h aA) (R:Rep w G st aA) {i:Nat} {v:SV} (hi:st[i]? =some (.cell (some v))) {a:Addr} (ha:(adr aA)[i]? =some a):
  ∃o u,aA[i]? =some (a,o)/\o.data=.cell (some u)/\RV (adr aA) v u:=by
 refine b7 (R.at_ i _ hi) λq hq z1=>?_
 refine b7 z1 λu hd hv=>?_;clear z1
 have e2:q.1=a:=fH hq ha
 exact⟨q.2,u,by rw[hq,<-e2],hd,hv⟩
def zE (tb:Tb) (st:List SO) (x:Str):Tr (SV×List SO):=match lk tb.glob x with
 |some v=>.ret (.lit v,st)
 |none=>match lk tb.blt x with
  |some v=>.ret (.lit v,st)
  |none=>.no
def MI (st:List SO) (loc:Loc) (x:Str):Tr (SV×List SO):=match lk loc x with
 |some v=>match zL v with
  |true=>.ret (v,st)
  |false=>.no
 |none=>.no
def zC (st:List SO) (loc:Loc) (x:Str):Tr (SV×List SO):=match lk loc x with
 |some (.cell i)=>match st[i]? with
  |some (.cell (some v))=>.ret (v,st)
  |_=>.no
 |_=>.no
def HE (tb:Tb) (fn:Fn) (st:List SO) (loc:Loc) (x:Str):Tr (SV×List SO):=match seq x dbg with
 |true=>.no
 |false=>match fn.cs with
  |none=>match lk fn.scope.names x with
   |some .local=>MI st loc x
   |some .cell=>zC st loc x
   |some .globalImplicit=>zE tb st x
   |_=>.no
  |some sc=>match sc.kind with
   | .function=>match lk sc.names x with
    |some .local=>MI st loc x
    |some .free=>match lk fn.scope.names x with
     |some .cell=>zC st loc x
     |_=>.no
    |some .globalImplicit=>zE tb st x
    |_=>.no
   |_=>.no
theorem dH {α:Type} (x:Str):∀l:List (Str×α),lk l x=l.lookup x
 |[]=>rfl
 |p::r=>by
  unfold lk
  rw[List.lookup_cons,show(x==p.1)=(p.1==x) from by cases h:(x==p.1)<;>cases g:(p.1==x)<;>simp_all,<-gB]
  cases seq p.1 x with
  |true=>rfl
  |false=>exact dH x r
section
variable {w:World} {prog:Program} {ih:Ih} {tb:Tb} (TB:TbOk w tb) (I:IhOk w prog ih)
theorem qA (f:Str->NameKind->NameKind) (x:Str):∀l:List (Str×NameKind),(l.map λq=>(q.1,f q.1 q.2)).lookup x=(l.lookup x).map (f x)
 |[]=>rfl
 |p::r=>by
  rw[bL,List.lookup_cons,List.lookup_cons]
  cases h:x==p.1 with
  |true=>
       have:x=p.1:=by simpa using h
       subst this;rfl
  |false=>exact qA f x r
theorem AP {sc:PySem.Scope} {cl:List (Str×Addr)} {C:Addr} {env:Env} {x:Str} {k:NameKind} (h:sc.names.lookup x=some k):
  (compEnvC sc cl C env).kindOf x=some (if (k==.free&&env.scope.kind==.function&&env.kindOf x==some .cell) then .cell else k):=by
 show List.lookup x (List.map _ sc.names)=_
 have:=qA (λn k=>if (k==.free&&env.scope.kind==.function&&env.kindOf n==some .cell) then .cell else k) x sc.names
 rw[h] at this
 rw[<-Option.map_some (f:=λk=>if (k==.free&&env.scope.kind==.function&&env.kindOf x==some .cell) then NameKind.cell else k)]
 rw[<-this]
 congr 1
 apply List.map_congr_left
 intro q _
 obtain⟨a,b⟩:=q
 simp only
 split<;>rfl
theorem FL.cls0 (h:L.c=none):L.cls=L.cl:=by delta FL.cls;rw[h]
theorem FL.cls1 {c:CF} (h:L.c=some c):L.cls=c.cl:=by delta FL.cls;rw[h]
theorem FL.lk1 {c:CF} (h:L.c=some c) (mm:Str->Option Value):L.lk mm=c.m2:=by delta FL.lk;rw[h]
theorem Fn.env1 {sc:PySem.Scope} {c:CF} (h:fn.cs=some sc) (h2:L.c=some c):fn.env L=compEnvC sc c.cl c.C (fn.fenv L):=by delta Fn.env;rw[h,h2]
theorem HW {x:Str} {φ:SV×List SO->Prop} {hp:Heap} (n:Now w G aY L loc st mm xs aA hp) (h:(MI st loc x).wp φ):∃v u,L.lk mm x=some u/\RV (adr aA) v u/\φ (v,st):=by
 delta MI at h
 refine mz0 h λv hv h=>?_
 refine i8 h λhc h=>?_
 exact b7 (PM (n.V x v hv) hc) λu hu hr=>⟨v,u,hu,hr,h⟩
theorem EY {x:Str} {φ:SV×List SO->Prop} {hp:Heap} (n:Now w G aY L loc st mm xs aA hp) (h:(zC st loc x).wp φ):∃v a o u,L.cls.lookup x=some a/\(a,o)∈aA/\o.data=.cell (some u)/\RV (adr aA) v u/\φ (v,st):=by
 delta zC at h
 refine mz2 h λi hv h=>?_
 refine mz3 h λv hs h=>?_
 refine b7 (n.V x _ hv) λa h1 h2=>?_
 exact fP (LH n.N n.R hs h2) λo u h3 h4 h5=>⟨v,a,o,u,h1,bD h3,h4,h5,h⟩
include TB in
theorem F4 {x:Str} {φ:SV×List SO->Prop} {R:Prop} (h:(zE tb st x).wp φ) (k1:∀v,nsIn (K w.params) mainGlobals x=some (some v)->φ (.lit v,st)->R) (k2:∀v,nsIn (K w.params) mainGlobals x=some none->bootBuiltins x=some v->x≠"__name__"->φ (.lit v,st)->R):R:=by
 delta zE at h
 refine mO2 h (λv hv h=>k1 v (TB.glob _ (lA hv)) h) λ_ h=>?_
 refine mz4 h λv hb h=>?_
 exact jN (TB.blt _ (lA hb)) λh1 h2 h3=>k2 v h1 h2 h3 h
include TB in
theorem aAT {fn:Fn} {st:List SO} {loc:Loc} {x:Str} {pos:Pos}:SE w prog fn st loc (HE tb fn st loc x) (eval (.Name x pos)):=by
 intro A outer aZ base aY L p loose aC mg mb C φ h s mm G xs aA Q E n k
 delta HE at h
 refine mzF h λhd h=>?_
 have hd':(x==("__debug__":Str))=false:=by rw[<-gB];exact hd
 refine aBB h ?_ ?_<;>clear h
 ·intro ac h
  have hL:=C.c0 ac
  rw[Fn.env0 ac]
  refine mK1 h ?_ ?_ ?_<;>clear h<;>intro hn h<;>rw[dH] at hn
  ·refine fP (HW n h) λv u hu hr af=>?_
   rw[FL.lk0 hL] at hu
   exact nameX_L n.F hu (k v st u aA s.heap s.toks af .rfl' n hr) C.hk hn hd'
  ·refine q45 (EY n h) λv a o u h1 h3 h4 h5 af=>?_
   rw[FL.cls0 hL] at h1
   exact nameX_C n.N h1 h3 h4 (k v st u aA s.heap s.toks af .rfl' n h5) C.hk hn hd'
  ·refine F4 TB h (λv h1 af=>?_) λv h1 h2 h3 af=>?_
   ·exact nameX_K n.F C.X (topRead_of C.T) h1 (k (.lit v) st v aA s.heap s.toks af .rfl' n rfl) C.hk hn hd'
   ·exact nameX_B n.F C.X (topRead_of C.T) h1 h2 h3 (k (.lit v) st v aA s.heap s.toks af .rfl' n rfl) C.hk hn hd'
 ·intro sc ac h
  have hcc:=C.hc
  rw[ac] at hcc
  refine gS hcc.symm λc hL=>?_
  rw[Fn.env1 ac hL]
  refine mz5 h λhk h=>?_
  have hk':(compEnvC sc c.cl c.C (fn.fenv L)).scope.kind=.function:=hk
  refine mK2 h ?_ ?_ ?_<;>clear h<;>intro hn h<;>rw[dH] at hn<;>have kk:=AP (cl:=c.cl) (C:=c.C) (env:=fn.fenv L) hn
  ·refine fP (HW n h) λv u hu hr af=>?_
   rw[FL.lk1 hL] at hu
   exact LCgL.ld_own n.NX (bK _ (n.CX c hL)) c.ok hu (k v st u aA s.heap s.toks af .rfl' n hr) hk' kk hd'
  ·refine mz6 h λhf h=>?_
   rw[dH] at hf
   refine q45 (EY n h) λv a o u h1 h3 h4 h5 af=>?_
   rw[FL.cls1 hL] at h1
   refine lcf_cell n.N h1 h3 h4 (k v st u aA s.heap s.toks af .rfl' n h5) hk' ?_ hd'
   rw[kk]
   have e1:((fn.fenv L).scope.kind==ScopeKind.function)=true:=by
    show(fn.scope.kind==_)=true
    rw[C.hk];rfl
   have e2:(fn.fenv L).kindOf x=some .cell:=hf
   rw[e1,e2]
   rfl
  ·refine F4 TB h (λv h1 af=>?_) λv h1 h2 h3 af=>?_
   ·exact LCgL.ld_global n.F C.X C.T h1 (k (.lit v) st v aA s.heap s.toks af .rfl' n rfl) rfl hk' kk hd'
   ·exact LCgL.ld_built n.F C.X C.T h1 h2 h3 (k (.lit v) st v aA s.heap s.toks af .rfl' n rfl) rfl rfl hk' kk hd'
noncomputable def G6 (st:List SO):Const->Tr (SV×List SO)
 | .int i=>.ret (.int i,st)
 | .str x=>.ret (.str x,st)
 | .bool b=>.ret (.bool b,st)
 | .none=>.ret (.none,st)
 | .bytes x=>.ret (.bytes x.length x.toArray,st)
 |_=>.no
theorem TI {fn:Fn} {st:List SO} {loc:Loc} {c:Const} {j:Nat} {pos:Pos}:SE w prog fn st loc (G6 st c) (eval (.Constant c j pos)):=by
 intro A outer aZ base aY L p loose aC mg mb C φ h s mm G xs aA Q E n k
 cases c with
 |int i=>exact wpAny_Constant_int (k (.int i) st (.int i s.toks) aA s.heap (s.toks+1) h .rfl' n ⟨_,rfl⟩)
 |str x=>exact Calls.Constant_str (k (.str x) st (.str x s.toks) aA s.heap (s.toks+1) h .rfl' n ⟨_,rfl⟩)
 |bool b=>exact Constant_bool (k (.bool b) st (.bool b) aA s.heap s.toks h .rfl' n rfl)
 |none=>exact Constant_none (k .none st .none aA s.heap s.toks h .rfl' n rfl)
 |bytes x=>exact Constant_bytes (k (.bytes x.length x.toArray) st (.bytes x.toArray s.toks) aA s.heap (s.toks+1) h .rfl' n ⟨⟨_,rfl⟩,by simp⟩)
 |_=>exact h.elim
def oZ (tb:Tb) (C:Addr) (n:Str):Bool:=match iQ tb.attr C with
 |some l=>sI l n
 |none=>false
def FY (tb:Tb) (st:List SO) (o:SV) (n:Str):Tr (SV×List SO):=match o with
 | .obj i=>match st[i]? with
  |some (.inst C d)=>match st[d]? with
   |some (.dict es)=>match oZ tb C n with
    |true=>match lk es n with
     |some v=>match hOk v with
      |true=>.ret (v,st)
      |false=>.no
     |none=>.no
    |false=>.no
   |_=>.no
  |_=>.no
 |_=>.no
include TB in
theorem pZ {C:Addr} {n:Str} (h:oZ tb C n=true):plainGet (K w.params) C n=true/\hasDictIn (K w.params) C=true/\(∃a,findIn (K w.params) (.ref C) n=some a/\noGet (K w.params) a=true)/\
  findIn (K w.params) (.ref C) "__setattr__"=some (some (.builtin "object.__setattr__"))/\plainOver (K w.params) C=true/\takerIn (K w.params) C n=some none:=by
 unfold oZ at h
 cases e:iQ tb.attr C with
 |none=>rw[e] at h;first|exact b5 h|exact d9 h
 |some l=>
  rw[e] at h
  have:=TB.attr _ (iR e) n (t5 h)
  unfold PY at this
  simp only[bG,beq_iff_eq] at this
  obtain⟨z1,g⟩:=this
  obtain⟨z2,f⟩:=z1
  obtain⟨z3,d⟩:=z2
  obtain⟨z4,c⟩:=z3
  obtain⟨a,b⟩:=z4
  refine⟨a,b,?_,d,f,g⟩
  cases q:findIn (K w.params) (.ref C) n with
  |none=>rw[q] at c;first|exact b5 c|exact d9 c
  |some x=>rw[q] at c;exact⟨x,rfl,c⟩
theorem sW {h:Heap} {L:Addr} (N:News aY L h aA) (R:Rep w G st aA) {i d:Nat} {C:Addr} {es:List (Str×SV)} (hi:st[i]? =some (.inst C d)) (hd:st[d]? =some (.dict es)):
  ∃x dx en,(adr aA)[i]? =some x/\(adr aA)[d]? =some dx/\aA[d]? =some (dx,dictOf en es.length)/\RE w.params (adr aA) es en/\InstAt h x (instObj C dx) C (some (dictOf en es.length)):=by
 refine fP (R.get hi) λx o hx hm ho=>?_
 refine b7 ho λdx hdx z1=>?_;clear ho;rw[z1] at hm
 refine b7 (R.at_ d _ hd) λq hq z1=>?_
 refine b7 z1 λen hre hqe=>?_;clear z1
 have e2:q.1=dx:=fH hq hdx
 have e3:q=(dx,dictOf en es.length):=by rw[<-e2,<-hqe]
 refine⟨x,dx,en,hx,hdx,by rw[hq,e3],hre,?_⟩
 exact InstAt.of_news N hm (by rw[<-e3];exact bD hq)
include TB in
theorem FZ {o:SV} {name:Str} {φ:SV×List SO->Prop} (h:(FY tb st o name).wp φ) {expr:Bool}
  (X:(K w.params).In aY) {Q:Value->Shared->Prop} (n:Now w G aY L loc st mm xs aA s.heap) {ov:Value} (ho:RV (adr aA) o ov)
  (k:∀v aT u aB h' aU,φ (v,aT)->Ext (adr aA) (adr aB)->Now w G aY L loc aT mm xs aB h'->RV (adr aB) v u->Q u {s with heap:=h',toks:=aU}):
  wpAny (model prog w) A (getAttr ov name expr) Q E s:=by
 delta FY at h
 refine qC h λi ez h=>?_
 rw[ez] at ho
 refine b7 ho λa ha1 z1=>?_;clear ho ez;subst z1
 refine mT1 h λC d hi h=>?_
 refine mT2 h λes hd h=>?_
 refine i8 h λha h=>?_
 refine mz0 h λv hl h=>?_
 refine i8 h λhh h=>?_
 refine SD (sW n.N n.R hi hd) λx dx en hx hdx hq hre IA=>?_
 have:x=a:=bS (hx.symm.trans ha1)
 rw[this] at IA
 refine zO (pZ TB ha) λc1 c2 z1 _=>?_
 refine b7 z1 λat' c3 c4=>?_;clear z1
 refine b7 (lY name hre) λr hr hm=>?_
 rw[hl] at hm
 refine b7 hm λu z1 hv=>?_;clear hm;rw[z1] at hr
 exact get_own n.F X IA c1 c2 c3 c4 hr (wM hh hv) (k v st u aA s.heap (s.toks+1) h .rfl' n hv)
def G1 (tb:Tb) (ih:Ih) (fn:Fn) (st:List SO) (loc:Loc) (o:Expr) (n:Str):Tr (SV×List SO):=match(kU o).isSome||(LB o).isSome with
 |true=>(ih.E fn st loc o).bind λx=>FY tb x.2 x.1 n
 |false=>.no
include TB I in
theorem aAM {fn:Fn} {st:List SO} {loc:Loc} {o:Expr} {name:Str} {pos:Pos}:SE w prog fn st loc (G1 tb ih fn st loc o name) (eval (.Attribute o name pos)):=by
 intro A outer aZ base aY L p loose aC mg mb C φ h s mm G xs aA Q E n k
 delta G1 at h
 refine i8 h λe h=>?_
 have key:wpAny (model prog w) A (eval o (fn.env L)) (λo s₁=>wpAny (model prog w) A (getAttr o name true) Q E s₁) E s:=by
  refine I.E fn st loc o C (Tr.wp_bind h) n λv aT u aB h' aU af x n' hv=>?_
  exact FZ TB af C.X n' hv λv2 st2 u2 aJ h2 aX hφ2 x2 n2 hv2=>k v2 st2 u2 aJ h2 aX hφ2 (x.trans x2) n2 hv2
 clear h
 rcases (Bool.or_eq_true _ _).mp e with e|e
 ·refine gS e λq e=>?_
  rw[fX e] at key ⊢
  exact Attribute_Name_ key
 ·refine gS e λq e=>?_
  rw[sJ e] at key ⊢
  exact Attribute_any_ key
end
end Mine.R
end
section
open PySem PySem.W PyProof.Rows PySem.Calls PySem.SeqAt
namespace Mine.R
open Mine
noncomputable def kM (v:SV):Option Int:=match v with
 | .int m=>some m
 |_=>none
theorem iK {v:SV} {m:Int} (h:kM v=some m):v=.int m:=by
 cases v with
 |int k=>rw[oS h]
 |_=>exact b5 h
noncomputable def nG (v:SV):Option Str:=match v with
 | .str m=>some m
 |_=>none
theorem jR {v:SV} {m:Str} (h:nG v=some m):v=.str m:=by
 cases v with
 |str k=>rw[oS h]
 |_=>exact b5 h
noncomputable def pM (v:SV):Option Nat:=match v with
 | .obj i=>some i
 |_=>none
theorem iL {v:SV} {i:Nat} (h:pM v=some i):v=.obj i:=by
 cases v with
 |obj j=>rw[oS h]
 |_=>exact b5 h
noncomputable def isNone (v:SV):Bool:=match v with
 | .none=>true
 |_=>false
theorem j9 {v:SV} (h:isNone v=true):v=.none:=by
 cases v with
 |none=>rfl
 |_=>exact d9 h
noncomputable def D7 (v:SV):Option (Nat×Array UInt8):=match v with
 | .bytes m b=>some (m,b)
 |_=>none
theorem oW {v:SV} {q:Nat×Array UInt8} (h:D7 v=some q):v=.bytes q.1 q.2:=by
 cases v with
 |bytes m b=>rw[<-oS h]
 |_=>exact b5 h
noncomputable def oc {α β:Type} (d:Option α) (A:α->Option β) (B:Option β):Option β:=match d with
 |some v=>A v
 |none=>B
theorem g8 {α β:Type} {d:Option α} {A:α->Option β} {B:Option β} {r:β} {R:Prop} (h:oc d A B=some r) (k1:∀v,d=some v->A v=some r->R) (k0:B=some r->R):R:=by
 cases d with
 |none=>exact k0 h
 |some v=>exact k1 v rfl h
noncomputable def lH:List SV->Option (List Str)
 |[]=>some []
 |v::r=>match v with
  | .str x=>match lH r with
   |some l=>some (x::l)
   |none=>none
  |_=>none
noncomputable def DS (st:List SO) (i:Nat):Option (List SV):=match st[i]? with
 |some (.list vs)=>some vs
 |some (.listB _ vs)=>some vs
 |_=>none
noncomputable def FR (t:Bool) (a b:Option (List SV)):Option Bool:=match a with
 |some xs=>match b with
  |some ys=>match xs with
   |[]=>match ys with
    |[]=>some t
    |_::_=>some (!t)
   |_::_=>match ys with
    |[]=>some (!t)
    |_::_=>none
  |none=>none
 |none=>none
theorem yQ {t c:Bool} {a b:Option (List SV)} {R:Prop} (h:FR t a b=some c) (k0:a=some []->b=some []->t=c->R) (k:∀xs ys,a=some xs->b=some ys->xs.length≠ys.length->(!t)=c->R):R:=by
 cases a with
 |none=>exact b5 h
 |some xs=>cases b with
  |none=>exact b5 h
  |some ys=>cases xs with
   |nil=>cases ys with
    |nil=>exact k0 rfl rfl (oS h)
    |cons=>exact k _ _ rfl rfl (λe=>nomatch e) (oS h)
   |cons=>cases ys with
    |nil=>exact k _ _ rfl rfl (λe=>nomatch e) (oS h)
    |cons=>exact b5 h
def inV (st:List SO) (x:Str) (j:Nat):Option Bool:=match st[j]? with
 |some (.list ys)=>match lH ys with
  |some l=>some (sI l x)
  |none=>none
 |some (.tup ys)=>match lH ys with
  |some l=>some (sI l x)
  |none=>none
 |some (.ud es)=>some (lk es x).isSome
 |_=>none
def RN (st:List SO) (x:Str) (j:Nat):Option Bool:=match st[j]? with
 |some (.list ys)=>match lH ys with
  |some l=>some (!sI l x)
  |none=>none
 |some (.ud es)=>some (!(lk es x).isSome)
 |_=>none
noncomputable def aB6 (op:CmpOp) (m n:Int):Option Bool:=match op with
 | .Eq=>some (m==n)
 | .NotEq=>some (m !=n)
 | .Lt=>some (decide (m<n))
 | .LtE=>some (decide (m<=n))
 | .Gt=>some (decide (m>n))
 | .GtE=>some (decide (m>=n))
 |_=>none
noncomputable def QC (op:CmpOp) (p q:Option Bool):Option Bool:=match op with
 | .Eq=>p
 | .NotEq=>q
 |_=>none
noncomputable def aB7 (op:CmpOp) (p q:Option Bool):Option Bool:=match op with
 | .In=>p
 | .NotIn=>q
 |_=>none
noncomputable def XA (op:CmpOp) (c:Bool):Option Bool:=match op with
 | .Is=>some c
 | .IsNot=>some (!c)
 |_=>none
def E2 (st:List SO) (op:CmpOp) (a b:SV):Option Bool:=
 oc (kM a) (λm=>oc (kM b) (aB6 op m) none) <|oc (pM a) (λi=>oc (pM b) (λj=>QC op (FR true (DS st i) (DS st j)) (FR false (DS st i) (DS st j))) (match isNone b with
  |true=>XA op false
  |false=>none)) <|oc (nG a) (λx=>oc (nG b) (λy=>QC op (some (seq x y)) (some (!seq x y))) (oc (pM b) (λj=>aB7 op (inV st x j) (RN st x j)) none)) <|
  oc (D7 a) (λx=>oc (D7 b) (λy=>QC op (some (x.2.toList==y.2.toList)) (some (x.2.toList !=y.2.toList))) none) <|match isNone a with
   |true=>match isNone b with
    |true=>XA op true
    |false=>none
   |false=>none
theorem cU {h:Heap} {L:Addr} (N:News aY L h aA) (R:Rep w G st aA) {i:Nat} (hi:st[i]? =some (.list vs)) {a:Addr} (ha:(adr aA)[i]? =some a):
  ∃ws n,RVs (adr aA) vs ws/\aA[i]? =some (a,listOf ws.toArray n)/\h.IsList a ws.toArray:=by
 refine b7 (R.at_ i _ hi) λq hq z1=>?_
 refine iJ z1 λws n hv he=>?_;clear z1
 have e2:q.1=a:=fH hq ha
 have e3:q=(a,listOf ws.toArray n):=by rw[<-e2,<-he]
 have e4:=(N q (bD hq)).1
 rw[e3] at e4
 exact⟨ws,n,hv,by rw[hq,e3],_,e4,rfl,n,rfl⟩
theorem lK {h:Heap} {L:Addr} (N:News aY L h aA) (R:Rep w G st aA) {i:Nat} (hi:st[i]? =some (.tup vs)) {a:Addr} (ha:(adr aA)[i]? =some a):
  ∃ws,RVs (adr aA) vs ws/\IsTup h a ws.toArray:=by
 refine b7 (R.at_ i _ hi) λq hq z1=>?_
 refine iJ z1 λws n hv he=>?_;clear z1
 have e2:q.1=a:=fH hq ha
 have e4:=(N q (bD hq)).1
 rw[e2,he] at e4
 exact⟨ws,hv,_,e4,rfl,n,rfl⟩
theorem i0 {h:Heap} {L:Addr} (N:News aY L h aA) (R:Rep w G st aA) {i:Nat} (hi:DS st i=some vs) {a:Addr} (ha:(adr aA)[i]? =some a):
  ∃ws n,RVs (adr aA) vs ws/\aA[i]? =some (a,listOf ws.toArray n)/\h.IsList a ws.toArray:=by
 unfold DS at hi
 refine mz7 hi ?_ ?_<;>clear hi
 ·intro vs' hs hi
  replace hi:=oS hi;subst hi
  exact cU N R hs ha
 ·intro k vs' hs hi
  replace hi:=oS hi;subst hi
  refine qM (R.at_ i _ hs) λq hq z1 _=>?_
  refine iJ z1 λws n hv he=>?_;clear z1
  have e2:q.1=a:=fH hq ha
  have e3:q=(a,listOf ws.toArray n):=by rw[<-e2,<-he]
  have e4:=(N q (bD hq)).1
  rw[e3] at e4
  exact⟨ws,n,hv,by rw[hq,e3],_,e4,rfl,n,rfl⟩
theorem pF:∀{ys:List Str} {ws:List Value},lH vs=some ys->RVs ρ vs ws->StrsAre ws ys:=by
 induction vs with
 |nil=>intro ys ws h r;rw[<-oS h,All2.nl r];exact .nil
 |cons v r ih=>
  intro ys ws h q
  refine All2.cs q λu t e hv ht=>?_
  rw[e]
  cases v with
  |str x=>
   refine wY (d0:=lH r) h λl e2 h=>?_
   rw[<-oS h]
   obtain⟨tk,rfl⟩:=hv
   exact .cons x tk (ih e2 ht)
  |_=>exact b5 h
theorem lQ (x:Str):∀l:List Str,sI l x=l.any λy=>y==x
 |[]=>rfl
 |n::r=>by
  unfold sI
  rw[bn,<-gB]
  cases seq n x with
  |true=>rfl
  |false=>exact lQ x r
theorem tU (p:Str×Value) (r:List (Str×Value)) (x:Str):PySem.valueAt (p::r) x=if p.1=x then some p.2 else PySem.valueAt r x:=by
 unfold PySem.valueAt
 rw[List.find?_cons]
 by_cases h:p.1=x<;>simp[h]
theorem DW (x:Str):∀{es:List (Str×SV)} {kvs:List (Str×Value)},RK ρ es kvs->match lk es x with
  |some v=>∃u,PySem.valueAt kvs x=some u/\RV ρ v u
  |none=>PySem.valueAt kvs x=none
 |[],[],_=>rfl
 |p::r,q::t,⟨⟨e,hv⟩,b⟩=>by
  rw[tU,<-e]
  unfold Mine.lk
  cases h:seq p.1 x with
  |true=>rw[if_pos (dI h)];exact⟨_,rfl,hv⟩
  |false=>
   have:p.1≠x:=λg=>by rw[seq_iff.mpr g] at h;exact d9 h.symm
   rw[if_neg this]
   exact DW x b
theorem yF (x:Str) {es:List (Str×SV)} {kvs:List (Str×Value)} (h:RK ρ es kvs):(PySem.valueAt kvs x).isSome=(Mine.lk es x).isSome:=by
 have:=DW x h
 cases e:Mine.lk es x with
 |none=>rw[e] at this;rw[this];rfl
 |some v=>rw[e] at this;obtain⟨u,h1,_⟩:=this;rw[h1];rfl
theorem qZ {h:Heap} {L:Addr} (N:News aY L h aA) (R:Rep w G st aA) {i:Nat} {es:List (Str×SV)} (hi:st[i]? =some (.ud es)) {a:Addr} (ha:(adr aA)[i]? =some a):
  ∃o kvs,RK (adr aA) es kvs/\aA[i]? =some (a,o)/\o.IsDictOf (PySem.strKind rw1.prog w) kvs/\(a==sysModules)=false:=by
 refine b7 (R.at_ i _ hi) λq hq z1=>?_
 refine qM z1 λkvs hk hd lo=>?_;clear z1
 have e2:q.1=a:=fH hq ha
 exact⟨q.2,kvs,hk,by rw[hq,<-e2],hd,e2▸lo⟩
section
variable {w:World} {prog:Program} {ih:Ih} {tb:Tb} (TB:TbOk w tb) (I:IhOk w prog ih)
theorem QP {x:Str} {j:Nat} {c:Bool} (n:Now w G aY L loc st mm xs aA s.heap) (e:inV st x j=some c) (aH:prog=rw1.prog) (ru:RV (adr aA) (.str x) u) (rv:RV (adr aA) (.obj j) v) {Q:Value->Shared->Prop} (hh:∀aU,Q (.bool c) {s with toks:=aU}):wpAny (model prog w) A (compareOp .In u v) Q E s:=by
 obtain⟨t,rfl⟩:=ru
 refine b7 rv λaj hj ez=>?_;clear rv;subst ez
 delta inV at e
 refine mzI e ?_ ?_ ?_<;>clear e
 ·intro ys hs e
  refine wY e ?_;clear e;intro l hl e
  refine fP (cU n.N n.R hs hj) λws k hv _ il=>?_
  exact in_list_strs il (pF hl hv) (by rw[<-lQ,oS e];exact hh s.toks)
 ·intro ys hs e
  refine wY e ?_;clear e;intro l hl e
  refine b7 (lK n.N n.R hs hj) λws hv il=>?_
  exact in_tuple_strs il (pF hl hv) (by rw[<-lQ,oS e];exact hh s.toks)
 ·intro es hs e
  refine kS (qZ n.N n.R hs hj) λod kvs hk hq hd lo=>?_
  subst aH
  exact kda_in (knd:=PySem.strKind rw1.prog w) (k:=x) n.N (bD hq) hd lo (strKind_is _ _ _ _) c ((yF x hk).trans (oS e)) (hh _)
theorem MM {x:Str} {j:Nat} {c:Bool} (n:Now w G aY L loc st mm xs aA s.heap) (e:RN st x j=some c) (aH:prog=rw1.prog) (ru:RV (adr aA) (.str x) u) (rv:RV (adr aA) (.obj j) v) {Q:Value->Shared->Prop} (hh:∀aU,Q (.bool c) {s with toks:=aU}):wpAny (model prog w) A (compareOp .NotIn u v) Q E s:=by
 obtain⟨t,rfl⟩:=ru
 refine b7 rv λaj hj ez=>?_;clear rv;subst ez
 delta RN at e
 refine YE e ?_ ?_<;>clear e
 ·intro ys hs e
  refine wY e ?_;clear e;intro l hl e
  refine fP (cU n.N n.R hs hj) λws k hv _ il=>?_
  exact notin_list_strs il (pF hl hv) (by rw[<-lQ,oS e];exact hh s.toks)
 ·intro es hs e
  refine kS (qZ n.N n.R hs hj) λod kvs hk hq hd lo=>?_
  subst aH
  exact kdg_notin (knd:=PySem.strKind rw1.prog w) (k:=x) n.N (bD hq) hd lo (strKind_is _ _ _ _) (lk es x).isSome (yF x hk) (oS e▸hh _)
theorem yL {l r:List SV} {p q:List Value} (h1:p.length=l.length) (h2:q.length=r.length) (h:l.length≠r.length):(p.toArray.size !=q.toArray.size)=true:=by
 simp only[bT,h1,h2,bne_iff_ne]
 exact h
theorem QG {i j:Nat} {c:Bool} (n:Now w G aY L loc st mm xs aA s.heap) (e:FR true (DS st i) (DS st j)=some c) (hu:A.units<cLine) (ru:RV (adr aA) (.obj i) u) (rv:RV (adr aA) (.obj j) v) {Q:Value->Shared->Prop} (h:Q (.bool c) s):wpAny (model prog w) A (compareOp .Eq u v) Q E s:=by
 refine b7 ru λai hi ez=>?_;clear ru;subst ez
 refine b7 rv λaj hj ez=>?_;clear rv;subst ez
 refine yQ e (λh1 h2 ec=>?_) λxs ys h1 h2 ne ec=>?_<;>clear e
 ·refine fP (i0 n.N n.R h1 hi) λws k hv _ il=>?_
  refine fP (i0 n.N n.R h2 hj) λws' k' hv' _ il'=>?_
  have e1:=All2.nl hv;have e2:=All2.nl hv';subst e1 e2
  exact RcAt.lists (A:=A) (e:=λ_=>true) il il' rfl hu (λj h1=>absurd h1 (Nat.not_lt_zero _)) _ _ _ _ (show Q (.bool true) s by rw[ec];exact h)
 ·refine fP (i0 n.N n.R h1 hi) λws k hv _ il=>?_
  refine fP (i0 n.N n.R h2 hj) λws' k' hv' _ il'=>?_
  exact RcAt.lists_lengths (A:=A) il il' (yL hv.len hv'.len ne) hu _ _ _ _ (show Q (.bool (!true)) s by rw[ec];exact h)
theorem QF {i j:Nat} {c:Bool} (n:Now w G aY L loc st mm xs aA s.heap) (e:FR false (DS st i) (DS st j)=some c) (hu:A.units<cLine) (ru:RV (adr aA) (.obj i) u) (rv:RV (adr aA) (.obj j) v) {Q:Value->Shared->Prop} (h:Q (.bool c) s):wpAny (model prog w) A (compareOp .NotEq u v) Q E s:=by
 refine b7 ru λai hi ez=>?_;clear ru;subst ez
 refine b7 rv λaj hj ez=>?_;clear rv;subst ez
 refine yQ e (λh1 h2 ec=>?_) λxs ys h1 h2 ne ec=>?_<;>clear e
 ·refine fP (i0 n.N n.R h1 hi) λws k hv _ il=>?_
  refine fP (i0 n.N n.R h2 hj) λws' k' hv' _ il'=>?_
  have e1:=All2.nl hv;have e2:=All2.nl hv';subst e1 e2
  exact RcNeAt.lists (A:=A) (e:=λ_=>true) il il' rfl hu (λj h1=>absurd h1 (Nat.not_lt_zero _)) _ _ _ _ (show Q (.bool false) s by rw[ec];exact h)
 ·refine fP (i0 n.N n.R h1 hi) λws k hv _ il=>?_
  refine fP (i0 n.N n.R h2 hj) λws' k' hv' _ il'=>?_
  exact RcNeAt.lists_lengths (A:=A) il il' (yL hv.len hv'.len ne) hu _ _ _ _ (show Q (.bool (!false)) s by rw[ec];exact h)
theorem pR {op:CmpOp} {a b:SV} {c:Bool} (e:E2 st op a b=some c) (aH:prog=rw1.prog) (n:Now w G aY L loc st mm xs aA s.heap)
  (hu:A.units+64<cLine) (ru:RV (adr aA) a u) (rv:RV (adr aA) b v) {Q:Value->Shared->Prop} (hh:∀aU,Q (.bool c) {s with toks:=aU}):wpAny (model prog w) A (compareOp op u v) Q E s:=by
 have H:∀{c'},some c'=some c->Q (.bool c') s:=λq=>by rw[oS q];exact hh s.toks
 unfold E2 at e
 refine g8 e ?_ ?_<;>clear e
 ·intro m ea e
  refine g8 e ?_ b5;clear e;intro k eb e
  rw[iK ea] at ru;rw[iK eb] at rv
  obtain⟨t,rfl⟩:=ru
  obtain⟨t',rfl⟩:=rv
  cases op with
  |Eq=>exact eq_int (H e)
  |NotEq=>exact PyProof.Rows.ne_int (H e)
  |Lt=>exact PyProof.Rows.lt_int (H e)
  |LtE=>exact PyProof.Rows.le_int (H e)
  |Gt=>exact PyProof.Rows.gt_int (H e)
  |GtE=>exact PyProof.Rows.ge_int (H e)
  |_=>exact b5 e
 intro e
 refine g8 e ?_ ?_<;>clear e
 ·intro i ea e
  rw[iL ea] at ru;clear ea
  refine g8 e ?_ ?_<;>clear e
  ·intro j eb e
   rw[iL eb] at rv
   cases op with
   |Eq=>exact QG n e (Nat.lt_of_le_of_lt (Nat.le_add_right _ _) hu) ru rv (hh s.toks)
   |NotEq=>exact QF n e (Nat.lt_of_le_of_lt (Nat.le_add_right _ _) hu) ru rv (hh s.toks)
   |_=>exact b5 e
  ·intro e
   refine jM e ?_;clear e;intro eb e
   rw[j9 eb] at rv
   cases rv
   refine b7 ru λai hi ez=>?_;clear ru;subst ez
   cases op with
   |Is=>exact is_ref_none (H e)
   |IsNot=>exact isnot_ref_none (H e)
   |_=>exact b5 e
 intro e
 refine g8 e ?_ ?_<;>clear e
 ·intro x ea e
  rw[jR ea] at ru;clear ea
  refine g8 e ?_ ?_<;>clear e
  ·intro y eb e
   rw[jR eb] at rv
   obtain⟨t,rfl⟩:=ru
   obtain⟨t',rfl⟩:=rv
   cases op with
   |Eq=>exact PyProof.Rows.eq_str (gB x y▸H e)
   |NotEq=>exact PyProof.Rows.ne_str (by rw[show(x !=y)=!(x==y) from rfl,<-gB];exact H e)
   |_=>exact b5 e
  ·intro e
   refine g8 e ?_ b5;clear e;intro j eb e
   rw[iL eb] at rv
   cases op with
   |In=>exact QP n e aH ru rv hh
   |NotIn=>exact MM n e aH ru rv hh
   |_=>exact b5 e
 intro e
 refine g8 e ?_ ?_<;>clear e
 ·intro x ea e
  refine g8 e ?_ b5;clear e;intro y eb e
  rw[oW ea] at ru;rw[oW eb] at rv
  obtain⟨⟨t,rfl⟩,_⟩:=ru
  obtain⟨⟨t',rfl⟩,_⟩:=rv
  cases op with
  |Eq=>exact eq_bytes (H e)
  |NotEq=>exact ne_bytes (H e)
  |_=>exact b5 e
 intro e
 refine jM e ?_;clear e;intro ea e
 refine jM e ?_;clear e;intro eb e
 rw[j9 ea] at ru;rw[j9 eb] at rv
 cases ru;cases rv
 cases op with
 |Is=>exact is_none_none (H e)
 |IsNot=>exact isnot_none_none (H e)
 |_=>exact b5 e
noncomputable def Q0 (m n:Int):Bool:=Nat.ble (Builtin.Int.intBits m) 64
theorem MD {m n:Int} (h:Q0 m n=true):IntMulOk m n:=IntMulOk.of_left (bA h)
def W3 (op:Operator) (m n:Int):Option SV:=match op with
 | .Add=>some (.int (m+n))
 | .Sub=>some (.int (m-n))
 | .Mult=>match Q0 m n with
  |true=>some (.int (m*n))
  |false=>none
 | .LShift=>match n with
  | .ofNat k=>match Nat.ble (Builtin.Int.intBits m+k) 1000 with
   |true=>some (.int (m*2 ^ k))
   |false=>none
  |_=>none
 | .RShift=>match n with
  | .ofNat k=>some (.int (Int.fdiv m (2 ^ k)))
  |_=>none
 | .BitAnd=>some (.int (Builtin.bitAnd m n))
 | .FloorDiv=>match n with
  | .ofNat (k+1)=>match Builtin.divisionGoesByPylong m (.ofNat (k+1)) with
   |false=>some (.int (Int.fdiv m (.ofNat (k+1))))
   |true=>none
  |_=>none
 | .Mod=>match n with
  | .ofNat (k+1)=>some (.int (Int.fmod m (.ofNat (k+1))))
  |_=>none
 | .Pow=>match n with
  | .ofNat k=>match Nat.ble (Builtin.Int.intBits m*k) 1000 with
   |true=>some (.int (m ^ k))
   |false=>none
  |_=>none
 |_=>none
noncomputable def NT (op:Operator):Bool:=match op with
 | .Add=>true
 |_=>false
theorem GE {op:Operator} (h:NT op=true):op=.Add:=by
 cases op with
 |Add=>rfl
 |_=>exact d9 h
def PV (op:Operator) (a b:SV):Option SV:=
 oc (kM a) (λm=>oc (kM b) (W3 op m) none) <|match NT op with
  |true=>oc (D7 a) (λx=>oc (D7 b) (λy=>match Nat.ble (x.1+y.1) 100000 with
    |true=>some (.bytes (x.1+y.1) (x.2++y.2))
    |false=>none) none) <|oc (nG a) (λx=>oc (nG b) (λy=>match Nat.ble (x.length+y.length) 1000 with
    |true=>some (.str (x++y))
    |false=>none) none) none
  |false=>none
theorem LE {op:Operator} {m k:Int} {c:SV} (e:W3 op m k=some c) {t t':Nat} {Q:Value->Shared->Prop} (h:∀x aU,RV ρ c x->Q x {s with toks:=aU}):wpAny (model prog w) A (binaryOp op (.int m t) (.int k t')) Q E s:=by
 have H:∀{n tk aU},some (.int n)=some c->Q (.int n tk) {s with toks:=aU}:=λq=>h _ _ (oS q▸⟨_,rfl⟩)
 cases op with
 |Add=>exact PyProof.Rows.add_int (H e)
 |Sub=>exact PyProof.Rows.sub_int (H e)
 |BitAnd=>exact PyProof.Rows.and_int (H e)
 |Mult=>exact jM (d0:=Q0 m k) e λq e=>PyProof.Rows.mul_int (H e) (MD q)
 |LShift=>cases k with
  |ofNat k=>
   refine jM (d0:=Nat.ble (Builtin.Int.intBits m+k) 1000) e λq e=>?_
   replace q:=bA q
   exact lshift_int (Int.natCast_nonneg k) (by show(Builtin.Int.intBits m:Int)+(k:Int)<=2 ^ 27;omega) (H e)
  |negSucc k=>exact b5 e
 |RShift=>cases k with
  |ofNat k=>exact PyProof.Rows.rshift_int (Int.natCast_nonneg k) (H e)
  |negSucc k=>exact b5 e
 |FloorDiv=>cases k with
  |ofNat k=>cases k with
   |zero=>exact b5 e
   |succ k=>exact mz9 (d0:=Builtin.divisionGoesByPylong m (.ofNat (k+1))) e λq e=>PyProof.Rows.floordiv_int (λz=>nomatch z) (H e) (.inl q)
  |negSucc k=>exact b5 e
 |Mod=>cases k with
  |ofNat k=>cases k with
   |zero=>exact b5 e
   |succ k=>exact PyProof.Rows.mod_int' (λz=>nomatch z) (H e)
  |negSucc k=>exact b5 e
 |Pow=>cases k with
  |ofNat k=>
   refine jM (d0:=Nat.ble (Builtin.Int.intBits m*k) 1000) e λq e=>?_
   replace q:=bA q
   refine pow_int (Int.natCast_nonneg k) ?_ (H e)
   show(Builtin.Int.intBits m:Int)*(k:Int)<=2 ^ 27
   have:((Builtin.Int.intBits m*k:Nat):Int)<=1000:=by exact_mod_cast q
   rw[Int.natCast_mul] at this
   omega
  |negSucc k=>exact b5 e
 |_=>exact b5 e
theorem PW {op:Operator} {a b c:SV} (e:PV op a b=some c) (n:Now w G aY L loc st mm xs aA s.heap) (ru:RV (adr aA) a u) (rv:RV (adr aA) b v) {Q:Value->Shared->Prop} (h:∀x aU,RV (adr aA) c x->Q x {s with toks:=aU}):wpAny (model prog w) A (binaryOp op u v) Q E s:=by
 unfold PV at e
 refine g8 e (λm ea e=>g8 e (λk eb e=>?_) b5) λe=>jM e λeo e=>?_
 ·rw[iK ea] at ru;rw[iK eb] at rv
  obtain⟨t,rfl⟩:=ru
  obtain⟨t',rfl⟩:=rv
  exact LE e h
 rw[GE eo]
 refine g8 e (λx ea e=>g8 e (λy eb e=>jM e λq e=>?_) b5) λe=>g8 e (λx ea e=>g8 e (λy eb e=>jM e λq e=>?_) b5) b5
 ·rw[oW ea] at ru;rw[oW eb] at rv
  refine And.elim (λz1 l1=>?_) ru
  obtain⟨t,rfl⟩:=z1
  refine And.elim (λz1 l2=>?_) rv
  obtain⟨t',rfl⟩:=z1
  replace q:=bA q
  exact KBy.add_bytes (bl (Nat.add_le_add l1 l2) (bl q (bA rfl))) λt' tk=>h _ _ (oS e▸⟨⟨_,rfl⟩,by rw[Array.size_append];exact Nat.add_le_add l1 l2⟩)
 ·rw[jR ea] at ru;rw[jR eb] at rv
  obtain⟨t,rfl⟩:=ru
  obtain⟨t',rfl⟩:=rv
  exact PyProof.Rows.add_str (λt' tk=>h _ _ (oS e▸⟨_,rfl⟩)) (bl (bA q) (bA rfl))
noncomputable def unV (op:UnaryOp) (a:SV):Option SV:=match a with
 | .int m=>match op with
  | .USub=>some (.int (-m))
  |_=>none
 | .bool b=>match op with
  | .Not=>some (.bool (!b))
  |_=>none
 |_=>none
theorem aAb {op:UnaryOp} {a c:SV} (e:unV op a=some c) (n:Now w G aY L loc st mm xs aA s.heap) (ru:RV (adr aA) a u) {Q:Value->Shared->Prop} (h:∀x aU,RV (adr aA) c x->Q x {s with toks:=aU}):wpAny (model prog w) A (unaryOp op u) Q E s:=by
 cases a with
 |int m=>
  obtain⟨t,rfl⟩:=ru
  cases op with
  |USub=>exact PyProof.Rows.neg_int (h _ _ (oS e▸⟨_,rfl⟩))
  |_=>exact b5 e
 |bool b=>
  cases ru
  cases op with
  |Not=>exact not_of (wpAny_truthy_bool (h _ _ (oS e▸rfl)))
  |_=>exact b5 e
 |_=>exact b5 e
noncomputable def xE {α:Type}:Option α->Tr α
 |some a=>.ret a
 |none=>.no
theorem eP {α:Type} {o:Option α} {φ:α->Prop} (h:(xE o).wp φ):∃a,o=some a/\φ a:=by
 cases o with
 |none=>exact h.elim
 |some a=>exact⟨a,rfl,h⟩
def nUn (ih:Ih) (fn:Fn) (st:List SO) (loc:Loc) (op:UnaryOp) (e:Expr):Tr (SV×List SO):=
 (ih.E fn st loc e).bind λx=>(xE (unV op x.1)).bind λv=>.ret (v,x.2)
include I in
theorem sUn {fn:Fn} {st:List SO} {loc:Loc} {e:Expr} {op:UnaryOp} {pos:Pos}:SE w prog fn st loc (nUn ih fn st loc op e) (eval (.UnaryOp op e pos)):=by
 intro A outer aZ base aY L p loose aC mg mb C φ h s mm G xs aA Q E n k
 refine UnaryOp_ (I.E fn st loc e C (Tr.wp_bind h) n λv aT u aB h' aU af x n' hv=>?_)
 refine b7 (eP (Tr.wp_bind af)) λc hc hφ3=>?_
 exact aAb hc n' hv λz aU hz=>k c aT z aB h' aU hφ3 x n' hz
end
noncomputable def UD (f:SV->SV->Option Bool):List SV->List SV->Option Bool
 |[],[]=>some true
 |a::r,b::t=>match f a b with
  |some p=>match UD f r t with
   |some q=>some (p&&q)
   |none=>none
  |none=>none
 |_,_=>none
def LM (a b:SV):Option Bool:=match a,b with
 | .int m,.int n=>some (m==n)
 | .str x,.str y=>some (seq x y)
 | .bytes _ b,.bytes _ c=>some (decide (b.toList=c.toList))
 |_,_=>none
noncomputable def NR (st:List SO):Nat->SV->SV->Option Bool
 |0=>LM
 |k+1=>λa b=>match pM a,pM b with
  |some i,some j=>match Nat.beq i j with
   |true=>some true
   |false=>match st[i]?,st[j]? with
    |some (.tup xs),some (.tup ys)=>UD (NR st k) xs ys
    |_,_=>none
  |_,_=>LM a b
def XC (st:List SO) (op:CmpOp) (a b:SV):Option Bool:=match a,b with
 | .obj i,.obj j=>match st[i]?,st[j]? with
  |some (.tup xs),some (.tup ys)=>match op with
   | .Eq=>UD (NR st 3) xs ys
   | .NotEq=>(UD (NR st 3) xs ys).map (!·)
   |_=>none
  |some (.tup _),some (.list ys)=>match op with
   | .NotIn=>match ys with
    |[]=>some true
    |[y]=>(NR st 4 y (.obj i)).map (!·)
    |[.obj y1,.obj y2]=>match Nat.beq y1 y2 with
     |true=>none
     |false=>match NR st 4 (.obj y1) (.obj i),NR st 4 (.obj y2) (.obj i) with
      |some p,some q=>some (!(p||q))
      |_,_=>none
    |_=>none
   |_=>none
  |some (.list xs),some (.list ys)=>match op with
   | .Eq=>UD (NR st 3) xs ys
   |_=>none
  |_,_=>none
 |_,_=>none
def LJ (st:List SO) (op:CmpOp) (a b:SV):Option Bool:=match E2 st op a b with
 |some c=>some c
 |none=>XC st op a b
theorem D5 (n:Nat) (e:Nat->Bool):(List.range (n+1)).all e=(e 0&&(List.range n).all λj=>e (j+1)):=by
 rw[List.range_succ_eq_map,bh,List.all_map]
 rfl
section
variable {w:World} {prog:Program}
theorem pG {h:Heap} {L:Addr} (N:News aY L h aA) (R:Rep w G st aA) {i:Nat} (hi:st[i]? =some (.tup vs)) {a:Addr} (ha:(adr aA)[i]? =some a):
  ∃ws,RVs (adr aA) vs ws/\h.IsTuple a ws.toArray:=by
 refine b7 (R.at_ i _ hi) λq hq z1=>?_
 refine iJ z1 λws n hv he=>?_;clear z1
 have e2:q.1=a:=fH hq ha
 have e4:=(N q (bD hq)).1
 rw[e2,he] at e4
 exact⟨ws,hv,_,e4,rfl,n,rfl⟩
theorem kC {l:List Addr} (nd:l.Nodup) {i j:Nat} {a:Addr} (hi:l[i]? =some a) (hj:l[j]? =some a):i=j:=by
 have li:i<l.length:=rV hi
 exact(List.getElem?_inj li nd).mp (hi.trans hj.symm)
theorem yP {a b:SV} {c:Bool} (e:LM a b=some c) (hu:RV ρ a u) (hv:RV ρ b v) (A:Around) (s:Shared):EqAt A s u v c:=by
 unfold LM at e
 refine aBC e ?_ ?_ ?_<;>clear e
 ·intro _ _ ez0 ez1 e;subst ez0 ez1
  first|exact b5 e|(replace e:=oS e;subst e)
  obtain⟨t,rfl⟩:=hu
  obtain⟨t',rfl⟩:=hv
  exact(MeetsSeq.EqGives.int _ _ _ _).at A s
 ·intro _ _ ez0 ez1 e;subst ez0 ez1
  first|exact b5 e|(replace e:=oS e;subst e)
  obtain⟨t,rfl⟩:=hu
  obtain⟨t',rfl⟩:=hv
  rw[gB]
  exact(PyProof.Rows.eqGives_str _ _ _ _).at A s
 ·intro _ _ _ _ ez0 ez1 e;rw[ez0] at hu;rw[ez1] at hv
  first|exact b5 e|(replace e:=oS e;subst e)
  obtain⟨z1,_⟩:=hu
  obtain⟨t,rfl⟩:=z1
  obtain⟨z1,_⟩:=hv
  obtain⟨t',rfl⟩:=z1
  exact λprog w E Q hq=>eqBool_bytes hq
theorem tY {a:SV} {r:List SV} {R:Prop} (h:RVs ρ (a::r) us) (k:∀u t,us=u::t->RV ρ a u->RVs ρ r t->R):R:=All2.cs h k
theorem lN (h:RVs ρ [] us):us=[]:=All2.nl h
theorem sP {f:SV->SV->Option Bool} {A:Around} {s:Shared} (hf:∀{a b c u v},f a b=some c->RV ρ a u->RV ρ b v->EqAt A s u v c) {xs:List SV}:∀{ys:List SV} {c:Bool} {us vs:List Value},UD f xs ys=some c->RVs ρ xs us->RVs ρ ys vs->
  us.length=vs.length/\∃e:Nat->Bool,(∀j (h1:j<us.length) (h2:j<vs.length),EqAt A s us[j] vs[j] (e j))/\(List.range us.length).all e=c:=by
 induction xs with
 |nil=>
  intro ys c us vs h h1 h2
  cases ys with
  |nil=>
   have e:=lN h1;have e':=lN h2;subst e e'
   exact⟨rfl,λ_=>true,λj h1=>absurd h1 (Nat.not_lt_zero _),oS h⟩
  |cons=>exact b5 h
 |cons a r ih=>
  intro ys c us vs h h1 h2
  cases ys with
  |nil=>exact b5 h
  |cons b t=>
  refine tY h1 λu us ez g h2'=>?_;subst ez
  refine tY h2 λv vs ez h3 h4=>?_;subst ez
  refine X7 h ?_;clear h;intro p hp h
  refine X7 h ?_;clear h;intro q hq h
  replace h:=oS h;subst h
  obtain⟨l,z1⟩:=ih hq h2' h4
  refine b7 z1 λe he hc=>?_;clear z1
  refine⟨congrArg (· +1) l,λj=>match j with|0=>p|j+1=>e j,λj g1 g2=>?_,?_⟩
  ·cases j with
   |zero=>exact hf hp g h3
   |succ j=>exact he j (Nat.lt_of_succ_lt_succ g1) (Nat.lt_of_succ_lt_succ g2)
  ·rw[List.length_cons,D5,hc]
theorem kZ {L:Addr} (N:News aY L s.heap aA) (R:Rep w G st aA):∀{k:Nat} {A:Around} {a b:SV} {c:Bool} {u v:Value},A.units+8*k<cLine->NR st k a b=some c->RV (adr aA) a u->RV (adr aA) b v->EqAt A s u v c
 |0,A,a,b,c,u,v,hu,h,h1,h2=>yP h h1 h2 A s
 |k+1,A,a,b,c,u,v,hu,h,h1,h2=>by
  refine nP2 h ?_ (λh=>yP h h1 h2 A s);clear h
  intro i j ea eb h
  have ea:=iL ea;have eb:=iL eb;subst ea eb
  refine b7 h1 λai hi z1=>?_;clear h1;subst z1
  refine b7 h2 λaj hj z1=>?_;clear h2;subst z1
  refine Q6 h ?_ ?_<;>clear h
  ·intro hb h
   ·replace h:=oS h;subst h
    have:=bg hb
    rw[<-this] at eb;rw[<-this] at hj;rw[<-this] at hb
    have:ai=aj:=bS (hi.symm.trans hj)
    subst this
    exact EqAt.same _
  ·intro hb h
   ·refine aBD h λxs ys hs hs2 h=>?_
    refine b7 (pG N R hs hi) λws hw it=>?_
    refine b7 (pG N R hs2 hj) λws2 hw2 it2=>?_
    have hne:ai≠aj:=λe=>by
     subst e
     have:=kC R.nd hi hj
     rw[<-this] at eb;rw[<-this] at hb;rw[<-this] at hs2;rw[<-this] at hj
     rw[Nat.beq_refl] at hb
     exact d9 hb.symm
    have hin:A.in1.units+8*k<cLine:=by
     have:A.in1.units<=A.units+2:=by simp[Around.in1]
     omega
    obtain⟨l,z1⟩:=sP (A:=A.in1) (s:=s) (fun{a b c u v} h1 h2 h3=>kZ N R hin h1 h2 h3) h hw hw2
    refine b7 z1 λe he hc=>?_;clear z1
    refine EqAt.of_refs hne ?_
    have:=RcAt.tuples (A:=A) (e:=e) it it2 (by omega) (λj g1 g2=>he j (by simpa using g1) (by simpa using g2))
    simp only[bT,l,Nat.min_self,beq_self_eq_true,Bool.and_true] at this
    rw[l] at hc
    rw[hc] at this
    exact this
theorem sL {op:CmpOp} {a b:SV} {c:Bool} (e:LJ st op a b=some c) (aH:prog=rw1.prog) (n:Now w G aY L loc st mm xs aA s.heap)
  (hu:A.units+64<cLine) (ru:RV (adr aA) a u) (rv:RV (adr aA) b v) {Q:Value->Shared->Prop} (hh:∀aU,Q (.bool c) {s with toks:=aU}):wpAny (model prog w) A (compareOp op u v) Q E s:=by
 have h:=hh s.toks
 unfold LJ at e
 refine nO2 e ?_ ?_<;>clear e
 ·intro c' hc e
  replace e:=oS e;rw[<-e] at hh;rw[<-e] at h
  exact pR hc aH n hu ru rv hh
 ·intro _ e
  have hin:A.in1.units+8*4<cLine:=by
   have:A.in1.units<=A.units+2:=by simp[Around.in1]
   omega
  have hin3:A.in1.units+8*3<cLine:=by omega
  unfold XC at e
  refine X8 e ?_;clear e;intro i j ez0 ez1 e;subst ez0 ez1
  refine b7 ru λai hi z1=>?_;clear ru;subst z1
  refine b7 rv λaj hj z1=>?_;clear rv;subst z1
  refine aBE e ?_ ?_ ?_<;>clear e
  ·intro aS ys hs hs2 e
   refine b7 (pG n.N n.R hs hi) λws hw it=>?_
   refine b7 (pG n.N n.R hs2 hj) λws2 hw2 it2=>?_
   refine aBF e ?_ ?_<;>clear e
   ·intro ez0 e;subst ez0
    obtain⟨l,z1⟩:=sP (A:=A.in1) (s:=s) (fun{a b c u v} h1 h2 h3=>kZ n.N n.R hin3 h1 h2 h3) e hw hw2
    refine b7 z1 λf he hc=>?_;clear z1
    have:=RcAt.tuples (A:=A) (e:=f) it it2 (by omega) (λj g1 g2=>he j (by simpa using g1) (by simpa using g2))
    simp only[bT,l,Nat.min_self,beq_self_eq_true,Bool.and_true] at this
    rw[l] at hc
    rw[hc] at this
    exact this _ _ _ _ h
   ·intro ez0 e;subst ez0
    refine b7 (Option.map_eq_some_iff.mp e) λc' hc' z1=>?_;rw[<-z1] at hh;rw[<-z1] at h;rw[<-z1] at e
    obtain⟨l,z1⟩:=sP (A:=A.in1) (s:=s) (fun{a b c u v} h1 h2 h3=>kZ n.N n.R hin3 h1 h2 h3) hc' hw hw2
    refine b7 z1 λf he hc=>?_;clear z1
    have:=RcNeAt.tuples (A:=A) (e:=f) it it2 (by omega) (λj g1 g2=>he j (by simpa using g1) (by simpa using g2))
    simp only[bT,l,Nat.min_self,beq_self_eq_true,Bool.and_true] at this
    rw[l] at hc
    rw[hc] at this
    exact this _ _ _ _ h
  ·intro aS ys hs hs2 e
   refine fP (cU n.N n.R hs2 hj) λws q hw hq il=>?_
   refine aBG e ?_;clear e;intro ez0 e;subst ez0
   refine aBH e ?_ ?_ ?_<;>clear e
   ·intro ez0 e;subst ez0
    first|exact b5 e|(replace e:=oS e;(rw[<-e] at hh;rw[<-e] at h))
    cases ws with
    |cons=>exact hw.elim
    |nil=>exact notIn_listAt (λ_=>true) il (λy hy=>by simp at hy) (by simpa using h)
   ·intro y ez0 e;rw[ez0] at hs2;rw[ez0] at hw
    refine b7 (Option.map_eq_some_iff.mp e) λc' hc' z1=>?_;rw[<-z1] at hh;rw[<-z1] at h;rw[<-z1] at e
    cases ws with
    |nil=>exact hw.elim
    |cons y' r'=>
     cases r' with
     |cons=>exact hw.2.elim
     |nil=>
      refine notIn_listAt (λ_=>c') il (λy2 hy=>?_) (by simpa using h)
      have:y2=y':=by simpa using hy
      rw[<-this] at hq;rw[<-this] at il;rw[<-this] at hw;rw[<-this] at hy
      exact kZ n.N n.R hin hc' hw.1 ⟨ai,hi,rfl⟩
   ·intro y1 y2 ez0 e;rw[ez0] at hs2;rw[ez0] at hw
    refine YA e λhb e=>?_
    refine aC4 e ?_;clear e
    ·intro p q hp hq2 e
     replace e:=oS e;rw[<-e] at hh;rw[<-e] at h
     cases ws with
     |nil=>exact hw.elim
     |cons u1 r1=>
      cases r1 with
      |nil=>exact hw.2.elim
      |cons u2 r2=>
       cases r2 with
       |cons=>exact hw.2.2.elim
       |nil=>
        refine jN hw λw1 w2 _=>?_;clear hw
        refine b7 w1 λa1 h1 z1=>?_;clear w1;rw[z1] at hq;rw[z1] at il
        refine b7 w2 λa2 h2 z1=>?_;clear w2;rw[z1] at hq;rw[z1] at il
        have hne:a1≠a2:=λe=>by
         rw[<-e] at h2;rw[<-e] at hq;rw[<-e] at il
         have:=kC n.R.nd h1 h2
         rw[<-this] at hs2;rw[<-this] at hb;rw[<-this] at hq2;rw[<-this] at h2
         rw[Nat.beq_refl] at hb
         exact d9 hb.symm
        refine notIn_listAt (λy=>match y with| .ref a=>if a=a1 then p else q|_=>q) il (λy hy=>?_) ?_
        ·have:y=.ref a1\/y=.ref a2:=by simpa using hy
         rcases this with rfl|rfl
         ·simp only[if_true]
          exact kZ n.N n.R hin hp ⟨a1,h1,rfl⟩ ⟨ai,hi,rfl⟩
         ·simp only[if_neg (Ne.symm hne)]
          exact kZ n.N n.R hin hq2 ⟨a2,h2,rfl⟩ ⟨ai,hi,rfl⟩
        ·simp only[List.any_toArray,bn,List.any_nil,if_true,if_neg (Ne.symm hne),Bool.or_false]
         exact h
  ·intro aS ys hs hs2 e
   refine fP (cU n.N n.R hs hi) λws q hw hq il=>?_
   refine fP (cU n.N n.R hs2 hj) λws2 q2 hw2 hq2 il2=>?_
   refine aBI e ?_;clear e;intro ez0 e;subst ez0
   obtain⟨l,z1⟩:=sP (A:=A.in1) (s:=s) (fun{a b c u v} h1 h2 h3=>kZ n.N n.R hin3 h1 h2 h3) e hw hw2
   refine b7 z1 λf he hc=>?_;clear z1
   have:=RcAt.lists (A:=A) (e:=f) il il2 (by simpa using l) (by omega) (λj g1 g2=>he j (by simpa using g1) (by simpa using g2))
   simp only[bT] at this
   rw[hc] at this
   exact this _ _ _ _ h
end
section
variable {w:World} {prog:Program} {ih:Ih} {tb:Tb} (TB:TbOk w tb) (I:IhOk w prog ih)
noncomputable def qF (e:Expr):Bool:=match e with
 | .Set ..=>false
 |_=>true
theorem qH {op:CmpOp} {e:Expr} (h:qF e=true):behindInMarks op e=false:=by
 cases e<;>first|rfl|(exact d9 h;done)
def BA (ih:Ih) (fn:Fn) (st:List SO) (loc:Loc) (l:Expr) (op:CmpOp) (r:Expr):Tr (Bool×List SO):=match qF r with
 |true=>(ih.E fn st loc l).bind λx=>(ih.E fn x.2 loc r).bind λy=>(xE (LJ y.2 op x.1 y.1)).bind λv=>.ret (v,y.2)
 |false=>.no
theorem Fx.room (C:Fx w fn A outer aZ base aY L p loose aC mg mb):A.units+64<cLine:=by
 have:=C.hu
 omega
include I in
theorem aCS (aH:prog=rw1.prog) {fn:Fn} {st:List SO} {loc:Loc} {l r:Expr} {op:CmpOp} {pos:Pos}:SE w prog fn st loc ((BA ih fn st loc l op r).bind λx=>.ret (.bool x.1,x.2)) (eval (.Compare l [op] [r] pos)):=by
 intro A outer aZ base aY L p loose aC mg mb C φ h s mm G xs aA Q E n k
 replace h:=Tr.wp_bind h
 unfold BA at h
 cases hs:qF r with
 |false=>rw[hs] at h;exact h.elim
 |true=>
  rw[hs] at h
  refine wpAny_Compare1 (I.E fn st loc l C (Tr.wp_bind h) n λv aT u aB h' aU af x n' hv=>?_) (qH hs)
  refine I.E fn aT loc r C (Tr.wp_bind af) n' λv2 st2 u2 aJ h2 aX hφ2 x2 n2 hv2=>?_
  refine b7 (eP (Tr.wp_bind hφ2)) λc hc hφ3=>?_
  exact sL hc aH n2 C.room (hv.ext x2) hv2 λtk3=>k (.bool c) st2 (.bool c) aJ h2 tk3 hφ3 (x.trans x2) n2 rfl
include I in
theorem aCe (aH:prog=rw1.prog) {l r:Expr} {op:CmpOp} {pos:Pos}:ST w prog fn st loc (BA ih fn st loc l op r) (λenv=>PySem.isTrue (.Compare l [op] [r] pos) env (eval (.Compare l [op] [r] pos) env)):=by
 intro A outer aZ base aY L p loose aC mg mb C φ h s mm G xs aA Q E n k
 unfold BA at h
 cases hs:qF r with
 |false=>rw[hs] at h;exact h.elim
 |true=>
  rw[hs] at h
  refine wpAny_isTrue_Compare1 (I.E fn st loc l C (Tr.wp_bind h) n λv aT u aB h' aU af x n' hv=>?_) (qH hs)
  refine I.E fn aT loc r C (Tr.wp_bind af) n' λv2 st2 u2 aJ h2 aX hφ2 x2 n2 hv2=>?_
  refine b7 (eP (Tr.wp_bind hφ2)) λc hc hφ3=>?_
  exact sL hc aH n2 C.room (hv.ext x2) hv2 λtk3=>wpAny_truthy_bool (k c st2 aJ h2 tk3 hφ3 (x.trans x2) n2)
theorem qG {a b:CmpOp} {x y:Expr} (h:qF y=true):lastMarks [a,b] [x,y]=false:=by
 cases y<;>first|rfl|(exact d9 h;done)
def mY (ih:Ih) (sy:Bool) (fn:Fn) (st:List SO) (loc:Loc) (l:Expr) (op1 op2:CmpOp) (r1 r2:Expr):Tr (Bool×List SO):=match qF r2 with
 |true=>(ih.E fn st loc l).bind λx=>(ih.E fn x.2 loc r1).bind λy=>(xE (E2 y.2 op1 x.1 y.1)).bind λc=>rD sy c
  ((ih.E fn y.2 loc r2).bind λz=>(xE (E2 z.2 op2 y.1 z.1)).bind λd=>.ret (d,z.2))
  (.ret (false,y.2))
 |false=>.no
include I in
theorem TH (aH:prog=rw1.prog) {sy:Bool} {fn:Fn} {st:List SO} {loc:Loc} {l r1 r2:Expr} {op1 op2:CmpOp} {pos:Pos}:SE w prog fn st loc ((mY ih sy fn st loc l op1 op2 r1 r2).bind λx=>.ret (.bool x.1,x.2)) (eval (.Compare l [op1,op2] [r1,r2] pos)):=by
 intro A outer aZ base aY L p loose aC mg mb C φ h s mm G xs aA Q E n k
 replace h:=Tr.wp_bind h
 unfold mY at h
 refine i8 h λhs h=>?_
 refine Compare_chain (I.E fn st loc l C (Tr.wp_bind h) n λv aT u aB h' aU af x n' hv=>?_) (qG hs)
 refine chain_link ?_
 refine I.E fn aT loc r1 C (Tr.wp_bind af) n' λv2 st2 u2 aJ h2 aX hφ2 x2 n2 hv2=>?_
 refine b7 (eP (Tr.wp_bind hφ2)) λc hc hφ3=>?_
 refine pR hc aH n2 C.room (hv.ext x2) hv2 λtk3=>wpAny_truthy_bool ?_
 have hp:=f9 hφ3
 cases c with
 |true=>
  simp only[if_true] at hp ⊢
  refine chain_last ?_
  refine I.E fn st2 loc r2 C (Tr.wp_bind hp) n2 λv4 st4 u4 aL h4 tk4 hφ4 x4 n4 hv4=>?_
  refine b7 (eP (Tr.wp_bind hφ4)) λd hd hφ5=>?_
  exact pR hd aH n4 C.room (hv2.ext x4) hv4 λtk5=>k (.bool d) st4 (.bool d) aL h4 tk5 hφ5 ((x.trans x2).trans x4) n4 rfl
 |false=>
  simp only[bW,if_false] at hp ⊢
  exact k (.bool false) st2 (.bool false) aJ h2 tk3 hp (x.trans x2) n2 rfl
include I in
theorem T1 (aH:prog=rw1.prog) {sy:Bool} {fn:Fn} {st:List SO} {loc:Loc} {l r1 r2:Expr} {op1 op2:CmpOp} {pos:Pos}:ST w prog fn st loc (mY ih sy fn st loc l op1 op2 r1 r2) (λenv=>PySem.isTrue (.Compare l [op1,op2] [r1,r2] pos) env (eval (.Compare l [op1,op2] [r1,r2] pos) env)):=by
 intro A outer aZ base aY L p loose aC mg mb C φ h s mm G xs aA Q E n k
 unfold mY at h
 refine i8 h λhs h=>?_
 refine isTrue_chain (I.E fn st loc l C (Tr.wp_bind h) n λv aT u aB h' aU af x n' hv=>?_) (qG hs)
 refine test_link ?_
 refine I.E fn aT loc r1 C (Tr.wp_bind af) n' λv2 st2 u2 aJ h2 aX hφ2 x2 n2 hv2=>?_
 refine b7 (eP (Tr.wp_bind hφ2)) λc hc hφ3=>?_
 refine pR hc aH n2 C.room (hv.ext x2) hv2 λtk3=>wpAny_truthy_bool ?_
 have hp:=f9 hφ3
 cases c with
 |true=>
  simp only[if_true] at hp ⊢
  refine test_last ?_
  refine I.E fn st2 loc r2 C (Tr.wp_bind hp) n2 λv4 st4 u4 aL h4 tk4 hφ4 x4 n4 hv4=>?_
  refine b7 (eP (Tr.wp_bind hφ4)) λd hd hφ5=>?_
  exact pR hd aH n4 C.room (hv2.ext x4) hv4 λtk5=>wpAny_truthy_bool (k d st4 aL h4 tk5 hφ5 ((x.trans x2).trans x4) n4)
 |false=>
  simp only[bW,if_false] at hp ⊢
  exact k false st2 aJ h2 tk3 hp (x.trans x2) n2
noncomputable def Q5 (ih:Ih) (fn:Fn) (loc:Loc):List SO->List Expr->Tr (Bool×List SO)
 |st,[]=>.ret (true,st)
 |st,e::r=>match r with
  |[]=>ih.T fn st loc e
  |_::_=>(ih.T fn st loc e).bind λx=>rD false x.1 (Q5 ih fn loc x.2 r) (.ret (false,x.2))
noncomputable def nOr (ih:Ih) (fn:Fn) (loc:Loc):List SO->List Expr->Tr (Bool×List SO)
 |st,[]=>.ret (false,st)
 |st,e::r=>match r with
  |[]=>ih.T fn st loc e
  |_::_=>(ih.T fn st loc e).bind λx=>rD false x.1 (.ret (true,x.2)) (nOr ih fn loc x.2 r)
include I in
theorem aAa {pos:Pos} {whole:Env->Sem Value}:∀{es:List Expr} {st:List SO},ST w prog fn st loc (Q5 ih fn loc st es) (λenv=>PySem.isTrue (.BoolOp .And es pos) env (whole env))
 |[],st=>λC φ h s mm G xs aA Q E n k=>isTrue_and_nil (k true st aA s.heap s.toks h .rfl' n)
 |[e],st=>λC φ h s mm G xs aA Q E n k=>by
  refine isTrue_and (I.T fn st loc e C h n λb aT aB h' aU af x n'=>?_)
  cases b with
  |true=>exact isTrue_and_nil (k true aT aB h' aU af x n')
  |false=>exact k false aT aB h' aU af x n'
 |e::e2::r,st=>λC φ h s mm G xs aA Q E n k=>by
  refine isTrue_and (I.T fn st loc e C (Tr.wp_bind h) n λb aT aB h' aU af x n'=>?_)
  have hp:=f9 af
  cases b with
  |true=>
   simp only[if_true] at hp ⊢
   exact aAa C hp n' λb2 st2 aJ h2 aX hφ2 x2 n2=>k b2 st2 aJ h2 aX hφ2 (x.trans x2) n2
  |false=>exact k false aT aB h' aU hp x n'
include I in
theorem tOr {pos:Pos} {whole:Env->Sem Value}:∀{es:List Expr} {st:List SO},ST w prog fn st loc (nOr ih fn loc st es) (λenv=>PySem.isTrue (.BoolOp .Or es pos) env (whole env))
 |[],st=>λC φ h s mm G xs aA Q E n k=>isTrue_or_nil (k false st aA s.heap s.toks h .rfl' n)
 |[e],st=>λC φ h s mm G xs aA Q E n k=>by
  refine isTrue_or (I.T fn st loc e C h n λb aT aB h' aU af x n'=>?_)
  cases b with
  |true=>exact k true aT aB h' aU af x n'
  |false=>exact isTrue_or_nil (k false aT aB h' aU af x n')
 |e::e2::r,st=>λC φ h s mm G xs aA Q E n k=>by
  refine isTrue_or (I.T fn st loc e C (Tr.wp_bind h) n λb aT aB h' aU af x n'=>?_)
  have hp:=f9 af
  cases b with
  |true=>exact k true aT aB h' aU hp x n'
  |false=>
   simp only[bW,if_false] at hp ⊢
   exact tOr C hp n' λb2 st2 aJ h2 aX hφ2 x2 n2=>k b2 st2 aJ h2 aX hφ2 (x.trans x2) n2
def asB (t:Tr (SV×List SO)):Tr (Bool×List SO):=t.bind λx=>match x.1 with
 | .bool b=>.ret (b,x.2)
 |_=>.no
def OH (sy:Pos->Bool) (ih:Ih) (fn:Fn) (st:List SO) (loc:Loc) (e:Expr):Tr (Bool×List SO):=match e with
 | .Compare l ops rs p=>match ops,rs with
  |[op],[r]=>BA ih fn st loc l op r
  |[op1,op2],[r1,r2]=>mY ih (sy p) fn st loc l op1 op2 r1 r2
  |_,_=>.no
 | .BoolOp op es _=>match op with
  | .And=>Q5 ih fn loc st es
  | .Or=>nOr ih fn loc st es
 | .UnaryOp op x _=>match op with
  | .Not=>(ih.T fn st loc x).bind λy=>.ret (!y.1,y.2)
  |_=>.no
 | .Name ..=>asB (ih.E fn st loc e)
 | .Call f a ks p=>asB (ih.E fn st loc e)
 | .Attribute ..=>asB (ih.E fn st loc e)
 |_=>.no
theorem mH {fn:Fn} {st:List SO} {loc:Loc} {m:Env->Sem Bool}:ST w prog fn st loc .no m:=λ_ _ h=>h.elim
include I in
theorem xZ {fn:Fn} {st:List SO} {loc:Loc} {e:Expr} (he:∀env,PySem.isTrue e env (eval e env)=(eval e env >>=λv=>standAt e.pos >>=λ_=>holding [v] (truthy v))):ST w prog fn st loc (asB (ih.E fn st loc e)) (λenv=>PySem.isTrue e env (eval e env)):=by
 intro A outer aZ base aY L p loose aC mg mb C φ h s mm G xs aA Q E n k
 refine isTrue_plain ?_ (he _)
 refine I.E fn st loc e C (Tr.wp_bind h) n λv aT u aB h' aU af x n' hv=>?_
 cases v with
 |bool b=>cases hv;exact wpAny_truthy_bool (k b aT aB h' aU af x n')
 |_=>exact af.elim
include I in
theorem aAW (aH:prog=rw1.prog) {sy:Pos->Bool} {e:Expr}:ST w prog fn st loc (OH sy ih fn st loc e) (λenv=>PySem.isTrue e env (eval e env)):=by
 cases e with
 |Compare l ops rs pos=>
  cases ops with
  |nil=>exact @mH w prog fn st loc _
  |cons op ops=>
   cases ops with
   |cons op2 ops=>
    cases ops with
    |cons _ _=>exact @mH w prog fn st loc _
    |nil=>
     cases rs with
     |nil=>exact @mH w prog fn st loc _
     |cons r1 rs=>
      cases rs with
      |nil=>exact @mH w prog fn st loc _
      |cons r2 rs=>
       cases rs with
       |cons _ _=>exact @mH w prog fn st loc _
       |nil=>exact @T1 w prog ih I aH (sy pos) fn st loc l r1 r2 op op2 pos
   |nil=>
    cases rs with
    |nil=>exact @mH w prog fn st loc _
    |cons r rs=>
     cases rs with
     |cons _ _=>exact @mH w prog fn st loc _
     |nil=>(intro A outer aZ base aY L p loose aC mg mb C φ h s mm G xs aA Q E n k;exact aCe I aH C h n k)
 |BoolOp op es pos=>
  cases op with
  |And=>(intro A outer aZ base aY L p loose aC mg mb C φ h s mm G xs aA Q E n k;exact aAa I C h n k)
  |Or=>(intro A outer aZ base aY L p loose aC mg mb C φ h s mm G xs aA Q E n k;exact tOr I C h n k)
 |UnaryOp op x pos=>
  cases op with
  |Not=>
   intro A outer aZ base aY L p loose aC mg mb C φ h s mm G xs aA Q E n k
   exact isTrue_not (I.T fn st loc x C (Tr.wp_bind h) n λb aT aB h' aU af x n'=>k (!b) aT aB h' aU af x n')
  |_=>exact @mH w prog fn st loc _
 |Name x pos=>exact @xZ w prog ih I fn st loc _ (λenv=>by with_unfolding_all rfl)
 |Call f a ks pos=>exact @xZ w prog ih I fn st loc _ (λenv=>by with_unfolding_all rfl)
 |Attribute o n pos=>exact @xZ w prog ih I fn st loc _ (λenv=>by with_unfolding_all rfl)
 |_=>exact @mH w prog fn st loc _
def mZ (ih:Ih) (sy:Bool) (fn:Fn) (st:List SO) (loc:Loc) (t b o:Expr):Tr (SV×List SO):=
 (ih.T fn st loc t).bind λx=>rD sy x.1 (ih.E fn x.2 loc b) (ih.E fn x.2 loc o)
include I in
theorem sIf {sy:Bool} {fn:Fn} {st:List SO} {loc:Loc} {t b o:Expr} {pos:Pos}:SE w prog fn st loc (mZ ih sy fn st loc t b o) (eval (.IfExp t b o pos)):=by
 intro A outer aZ base aY L p loose aC mg mb C φ h s mm G xs aA Q E n k
 refine IfExp_ (I.T fn st loc t C (Tr.wp_bind h) n λc aT aB h' aU af x n'=>?_)
 have hp:=f9 af
 cases c with
 |true=>
  simp only[if_true] at hp ⊢
  exact I.E fn aT loc b C hp n' λv st2 u aJ h2 aX hφ2 x2 n2 hv=>k v st2 u aJ h2 aX hφ2 (x.trans x2) n2 hv
 |false=>
  simp only[bW,if_false] at hp ⊢
  exact I.E fn aT loc o C hp n' λv st2 u aJ h2 aX hφ2 x2 n2 hv=>k v st2 u aJ h2 aX hφ2 (x.trans x2) n2 hv
end
theorem gX:(1000:Nat)<=sizeLine:=bA rfl
section
variable {w:World} {prog:Program} {ih:Ih} {tb:Tb} (TB:TbOk w tb) (I:IhOk w prog ih)
theorem Now.push {h h':Heap} (n:Now w G aY L loc st mm xs aA h) {d:Addr} {o:Obj} {so:SO}
  (F:Fr aY L.a h' mm) (N:News aY L.a h' ((d,o)::(xs++aA))) (lt:∀p∈xs++aA,p.1<d) (ho:RO w G (adr (aA++[(d,o)])) d so o):
  Now w G aY L loc (st++[so]) mm xs (aA++[(d,o)]) h'/\Ext (adr aA) (adr (aA++[(d,o)]))/\RV (adr (aA++[(d,o)])) (.obj st.length) (.ref d):=
 ⟨n.ext F (λp hp=>N p (by
   rw[<-bB] at hp
   rcases bN.mp hp with q|q
   ·exact .tail _ q
   ·simp at q;subst q;exact .head _)) (λp hp q hq=>by
   rcases bN.mp hq with z|z
   ·exact n.off p hp q z
   ·simp at z;subst z;exact Nat.ne_of_lt (lt p (bK _ hp))) (n.R.push (λp hp=>Nat.ne_of_lt (lt p (ay _ hp))) ho) ext_push,ext_push,d,i4 n.R,rfl⟩
noncomputable def small (l:List SV):Bool:=Nat.ble l.length 1000
theorem eH {l:List SV} (h:small l=true) (r:RVs ρ l us):us.length<=sizeLine:=by
 rw[r.len]
 exact bl (bA h) gX
def OD (ih:Ih) (fn:Fn) (st:List SO) (loc:Loc) (es:List Expr):Tr (SV×List SO):=
 (oH ih fn st loc es).bind λx=>match small x.1 with
  |true=>.ret (.obj x.2.length,x.2++[.list x.1])
  |false=>.no
def Y5 (ih:Ih) (fn:Fn) (st:List SO) (loc:Loc) (es:List Expr):Tr (SV×List SO):=
 (oH ih fn st loc es).bind λx=>match small x.1 with
  |true=>.ret (.obj x.2.length,x.2++[.tup x.1])
  |false=>.no
include I in
theorem aAS {fn:Fn} {st:List SO} {loc:Loc} {es:List Expr} {pos:Pos}:SE w prog fn st loc (OD ih fn st loc es) (eval (.List es pos)):=by
 intro A outer aZ base aY L p loose aC mg mb C φ h s mm G xs aA Q E n k
 refine List_ (R.sA I C (Tr.wp_bind h) n λvs aT us aB h' aU af x n' hv=>?_)
 cases hs:small vs with
 |false=>rw[hs] at af;exact af.elim
 |true=>
  rw[hs] at af
  refine newList_K n'.F n'.NX (λl h2 F2 N2 lt=>?_) (eH hs hv)
  refine jN (n'.push (so:=.list vs) F2 N2 lt ⟨us,0,hv.ext ext_push,rfl⟩) λn2 x2 r2=>?_
  exact k _ _ _ _ h2 aU af (x.trans x2) n2 r2
include I in
theorem aCa {fn:Fn} {st:List SO} {loc:Loc} {es:List Expr} {j:Nat} {pos:Pos}:SE w prog fn st loc (Y5 ih fn st loc es) (eval (.Tuple es j pos)):=by
 intro A outer aZ base aY L p loose aC mg mb C φ h s mm G xs aA Q E n k
 refine Tuple_ (R.sA I C (Tr.wp_bind h) n λvs aT us aB h' aU af x n' hv=>?_)
 cases hs:small vs with
 |false=>rw[hs] at af;exact af.elim
 |true=>
  rw[hs] at af
  refine kup_newTuple n'.F n'.NX (λl h2 F2 N2 lt=>?_) (eH hs hv)
  refine jN (n'.push (so:=.tup vs) F2 N2 lt ⟨us,0,hv.ext ext_push,rfl⟩) λn2 x2 r2=>?_
  exact k _ _ _ _ h2 aU af (x.trans x2) n2 r2
noncomputable def G7 (st:List SO):Tr (SV×List SO):=.ret (.obj st.length,st++[.ud []])
theorem TJ {fn:Fn} {st:List SO} {loc:Loc} {pos:Pos}:SE w rw1.prog fn st loc (G7 st) (eval (.Dict [] [] pos)):=by
 intro A outer aZ base aY L p loose aC mg mb C φ h s mm G xs aA Q E n k
 refine newDict_K n.F n.NX C.T.nolimit λd h2 o F2 N2 lt lo hd _ _ _=>?_
 refine jN (n.push (so:=.ud []) F2 N2 lt ⟨[],trivial,hd,lo⟩) λn2 x2 r2=>?_
 exact k _ _ _ _ h2 s.toks h x2 n2 r2
theorem yG {v:SV}:∀{vs:List SV} {us:List Value} {i:Nat},RVs ρ vs us->vs[i]? =some v->∃u,us[i]? =some u/\RV ρ v u:=by
 intro vs
 induction vs with
 |nil=>intro us i _ h;exact b5 h
 |cons x r ih=>
  intro us i hu h
  cases us with
  |nil=>exact hu.elim
  |cons u t=>
   cases i with
   |zero=>(replace h:=oS h;subst h);exact⟨u,rfl,hu.1⟩
   |succ i=>exact ih (i:=i) (us:=t) hu.2 h
noncomputable def GK (b l:Bool) (vs:List SV) (m:Int):Option SV:=match m with
 | .ofNat m=>match b&&Nat.ble m 1000 with
  |true=>vs[m]?
  |false=>none
 | .negSucc m=>match l&&Nat.beq m 0 with
  |true=>vs.getLast?
  |false=>none
theorem yY {b l:Bool} {m:Int} {c:SV} {R:Prop} (h:GK b l vs m=some c) (k0:∀n:Nat,m=(n:Int)->b=true->n<=1000->vs[n]? =some c->R) (k1:m=.negSucc 0->l=true->vs.getLast? =some c->R):R:=by
 cases m with
 |ofNat n=>
  refine jM (d0:=b&&Nat.ble n 1000) h λq h=>?_
  obtain⟨q1,q2⟩:=rJ q
  exact k0 n rfl q1 (bA q2) h
 |negSucc n=>
  refine jM (d0:=l&&Nat.beq n 0) h λq h=>?_
  obtain⟨q1,q2⟩:=rJ q
  exact k1 (by rw[bg q2]) q1 h
def NS (st:List SO) (o i:SV):Option SV:=match pM o with
 |some j=>match st[j]? with
  |some so=>match so with
   | .list vs=>(kM i).bind (GK true true vs)
   | .listB k vs=>(kM i).bind (GK false (Nat.ble k 1000) vs)
   | .tup vs=>(kM i).bind (GK true false vs)
   | .ud es=>(nG i).bind (lk es)
   | .pud es=>(nG i).bind (lk es)
   |_=>none
  |none=>none
 |none=>none
theorem vY {v:SV}:∀{vs:List SV} {us:List Value},RVs ρ vs us->vs.getLast? =some v->∃y,us.getLast? =some y/\RV ρ v y:=by
 intro vs
 induction vs with
 |nil=>intro us _ h;exact b5 h
 |cons x r ih=>
  intro us hu h
  cases us with
  |nil=>exact hu.elim
  |cons u t=>
   cases r with
   |nil=>
    cases t with
    |nil=>(replace h:=oS h;subst h);exact⟨u,rfl,hu.1⟩
    |cons=>exact hu.2.elim
   |cons y r=>
    cases t with
    |nil=>exact hu.2.elim
    |cons u2 t=>
     rw[List.getLast?_cons_cons] at h
     refine b7 (ih hu.2 h) λz hz hr=>?_
     exact⟨z,by rw[List.getLast?_cons_cons];exact hz,hr⟩
theorem A4 {ws:List Value} {c:SV} {a:Addr} {t:Tok} {value slice:Expr} {Q:Value->Shared->Prop} (hw:RVs ρ vs ws) (hc:vs.getLast? =some c) (il:s.heap.IsList a ws.toArray)
  (k:∀z,RV ρ c z->Q z s) (hs:subscripted slice false (.ref a) (.int (.negSucc 0) t)=operate [.ref a,.int (.negSucc 0) t] (getItem (.ref a) (.int (.negSucc 0) t))):
  wpAny (model prog w) A (subscriptTail value slice (.ref a) (.int (.negSucc 0) t)) Q E s:=by
 refine b7 (vY hw hc) λz hz hr=>?_
 have hpos:0<ws.length:=by
  cases ws with
  |nil=>exact b5 hz
  |cons _ _=>exact Nat.succ_pos _
 refine tail_any il.typeIs slot_list_getitem.lookup (wpAny_getItem_list_neg il (by decide) ?_ (by decide) ?_ (k z hr)) hs
 ·show -((ws.toArray.size:Nat):Int)<=-1
  rw[bT]
  omega
 ·have e:(Int.negSucc 0+((ws.toArray.size:Nat):Int)).toNat=ws.length-1:=by
   rw[bT]
   show((-1:Int)+((ws.length:Nat):Int)).toNat=_
   omega
  rw[e,List.getElem?_toArray,<-List.getLast?_eq_getElem?]
  exact hz
noncomputable def tI (e:Expr):Bool:=match e with
 | .Slice ..=>false
 |_=>true
noncomputable def BL (e:Expr):Bool:=match e with
 | .Name ..| .Attribute ..| .Tuple ..| .Subscript ..=>true
 |_=>false
def RM (ih:Ih) (fn:Fn) (st:List SO) (loc:Loc) (o i:Expr):Tr (SV×List SO):=match BL o&&tI i with
 |true=>(ih.E fn st loc o).bind λx=>(ih.E fn x.2 loc i).bind λy=>(xE (NS y.2 x.1 y.1)).bind λv=>.ret (v,y.2)
 |false=>.no
theorem jF {i:Expr} (h:tI i=true) (o v:Value):subscripted i false o v=operate [o,v] (getItem o v):=by
 cases i<;>first|rfl|(exact d9 h;done)
theorem F0 {o i:Expr} {v v2 c:SV} (hc:NS st v v2=some c) {s:Shared} (n2:Now w G aY L loc st mm xs aA s.heap) {u2:Value} (hv:RV (adr aA) v u) (hv2:RV (adr aA) v2 u2) {Q:Value->Shared->Prop} (hp:tI i=true) (k:∀z aU,RV (adr aA) c z->Q z {s with toks:=aU}):wpAny (model rw1.prog w) A (subscriptTail o i u u2) Q E s:=by
 refine mzN hc λj hj hc=>?_
 rw[iL hj] at hv
 refine b7 hv λa ha z1=>?_;clear hv hj;subst z1
 refine mzO hc λso hs hc=>?_
 have hq:=n2.R.at_ j _ hs
 have hI:∀{f:Int->Option SV} {R:Prop},(kM v2).bind f=some c->(∀m t,u2=.int m t->f m=some c->R)->R:=λh k=>by
  refine b7 (Option.bind_eq_some_iff.mp h) λm e h=>?_
  rw[iK e] at hv2
  obtain⟨t,e⟩:=hv2
  exact k m t e h
 have hS:∀{es:List (Str×SV)} {kvs:List (Str×Value)} {b:Obj},(nG v2).bind (lk es)=some c->RK (adr aA) es kvs->(a,b)∈aA->b.IsDictOf (PySem.strKind rw1.prog w) kvs->wpAny (model rw1.prog w) A (subscriptTail o i (.ref a) u2) Q E s:=λh hk hm hd=>by
  refine b7 (Option.bind_eq_some_iff.mp h) λy e h=>?_
  rw[jR e] at hv2
  obtain⟨t,e⟩:=hv2
  subst e
  have:=DW y hk
  rw[h] at this
  refine b7 this λz hz hr=>?_
  have hD:=kda_dict (s:=s) n2.N hm hd
  exact tail_any hD.typeIs slot_dict_getitem.lookup (wpAny_getItem_of (strKind_is _ _ _ _) hD.mapOf hz (k z _ hr)) (jF hp _ _)
 have hL:∀{vs:List SV} {m:Int} {t:Tok} {b l:Bool} {ws:List Value},GK b l vs m=some c->RVs (adr aA) vs ws->s.heap.IsList a ws.toArray->wpAny (model rw1.prog w) A (subscriptTail o i (.ref a) (.int m t)) Q E s:=λh hw il=>by
  refine yY h (λm e _ hb h=>?_) λe _ h=>?_<;>rw[e]
  ·refine b7 (yG hw h) λz hz hr=>?_
   exact tail_any il.typeIs slot_list_getitem.lookup (wpAny_getItem_list il (Int.natCast_nonneg m) (by show(m:Int)<2 ^ 63;omega) (by simpa using hz) (k z s.toks hr)) (jF hp _ _)
  ·exact A4 hw h il (λz hz=>k z s.toks hz) (jF hp _ _)
 cases so with
 |list vs=>
  refine hI hc λm t e h=>?_
  rw[e]
  refine fP (cU n2.N n2.R hs ha) λws q hw hq il=>?_
  exact hL h hw il
 |listB kk vs=>
  refine hI hc λm t e h=>?_
  rw[e]
  refine qM hq λqq hq z1 _=>?_
  refine iJ z1 λws q hw he=>?_;clear z1
  have e1:(adr aA)[j]? =some qq.1:=by simp[adr,hq]
  have e4:=(n2.N qq (bD hq)).1
  rw[bS (e1.symm.trans ha),he] at e4
  exact hL h hw ⟨_,e4,rfl,q,rfl⟩
 |tup vs=>
  refine hI hc λm t e h=>?_
  rw[e]
  refine yY h (λm e _ hb h=>?_) λ_ e _=>d9 e
  rw[e]
  refine b7 (lK n2.N n2.R hs ha) λws hw it=>?_
  refine b7 (yG hw h) λz hz hr=>?_
  have hlt:m<ws.length:=rV hz
  refine item_tupleT it (by show -(2:Int) ^ 63<=(m:Int);omega) (by show(m:Int)<2 ^ 63;omega) (j:=m) ?_ hz (k z s.toks hr) (jF hp _ _)
  show seqIndex? (m:Int) ws.length=some m
  unfold seqIndex?
  have h0:¬((m:Int)<0):=by omega
  have h1:(m:Int)<(ws.length:Int):=by omega
  simp only[h0,if_false]
  rw[if_pos (by simp only[bG,decide_eq_true_eq];exact⟨by omega,h1⟩)]
  rfl
 |ud es=>
  refine kS (qZ n2.N n2.R hs ha) λod kvs hk hq hd lo=>?_
  exact hS hc hk (bD hq) hd
 |pud es=>
  refine qM hq λq hq _ z1=>?_
  refine qM z1 λkvs hk hd lo=>?_;clear z1
  have e1:(adr aA)[j]? =some q.1:=by simp[adr,hq]
  exact hS hc hk (bS (e1.symm.trans ha)▸bD hq) hd
 |_=>exact b5 hc
include I in
theorem aCZ (aH:prog=rw1.prog) {fn:Fn} {st:List SO} {loc:Loc} {o i:Expr} {pos:Pos}:SE w prog fn st loc (RM ih fn st loc o i) (eval (.Subscript o i pos)):=by
 subst aH
 intro A outer aZ base aY L p loose aC mg mb C φ h s mm G xs aA Q E n k
 delta RM at h
 refine i8 h λhp h=>?_
 refine Subscript_ (I.E fn st loc o C (Tr.wp_bind h) n λv aT u aB h' aU af x n' hv=>?_)
 refine I.E fn aT loc i C (Tr.wp_bind af) n' λv2 st2 u2 aJ h2 aX hφ2 x2 n2 hv2=>?_
 refine b7 (eP (Tr.wp_bind hφ2)) λc hc hφ3=>?_
 exact F0 (s:={s with heap:=h2,toks:=aX}) hc n2 (hv.ext x2) hv2 (rJ hp).2 λz tk3 hz=>k c st2 z aJ h2 tk3 hφ3 (x.trans x2) n2 hz
end
theorem AC {d:Addr} {o o':Obj} {l l':List (Addr×Obj)} (U:Upd d o o' l l'):∀{xs:List (Addr×Obj)},(∀p∈xs,p.1≠d)->Upd d o o' (xs++l) (xs++l')
 |[],_=>U
 |x::r,h=>.tail (h x (.head _)) (AC U λp hp=>h p (.tail _ hp))
section
variable {w:World} {prog:Program} {ih:Ih} {tb:Tb} (TB:TbOk w tb) (I:IhOk w prog ih)
theorem Now.upd {h:Heap} (n:Now w G aY L loc st mm xs aA h) {i:Nat} {d:Addr} {o o':Obj} {so:SO} (hi:aA[i]? =some (d,o)) (ho:RO w G (adr aA) d so o'):
  Upd d o o' (xs++aA) (xs++aA.set i (d,o'))/\(∀{h':Heap},Fr aY L.a h' mm->News aY L.a h' (xs++aA.set i (d,o'))->Now w G aY L loc (st.set i so) mm xs (aA.set i (d,o')) h')/\Ext (adr aA) (adr (aA.set i (d,o'))):=by
 have ea:=yI (o':=o') hi
 have hm:=bD hi
 refine⟨AC (NH n.R.nd hi o') λp hp=>n.off p hp _ hm,λF N=>n.ext F N ?_ (n.R.set hi ho) (by rw[ea];exact .rfl'),by rw[ea];exact .rfl'⟩
 intro p hp q hq
 have:q.1∈adr (aA.set i (d,o')):=bY.mpr ⟨q,hq,rfl⟩
 rw[ea] at this
 refine b7 (bY.mp this) λq' hq' e=>?_
 rw[<-e]
 exact n.off p hp q' hq'
theorem yE {x:Str} {v:SV} {es:List (Str×SV)} {kvs:List (Str×Value)} (h:RK ρ es kvs):lk es x=some v->∃u,kvs.lookup x=some u/\RV ρ v u:=
 All2.ind (M:=λes kvs=>lk es x=some v->∃u,kvs.lookup x=some u/\RV ρ v u) h (λh=>b5 h) (λp q r t a b i h=>by
  rw[dH,List.lookup_cons] at h
  rw[List.lookup_cons,<-a.1]
  cases g:x==p.1 with
  |true=>rw[g] at h;exact⟨_,rfl,oS h▸a.2⟩
  |false=>rw[g,<-dH] at h;exact i h)
theorem DY {a:List (Str×SV)} {c:List (Str×Value)} (h:RK ρ a c):RK ρ a.reverse c.reverse:=All2.rev h
theorem DZ {ns:List Str}:∀{vs:List SV} {us:List Value},RVs ρ vs us->RK ρ (ns.zip vs) (ns.zip us):=by
 induction ns with
 |nil=>intro vs us _;exact trivial
 |cons x r ih=>
  intro vs us h
  cases vs with
  |nil=>rw[All2.nl h];exact trivial
  |cons v t=>exact All2.cs h λu q e a b=>e▸⟨⟨rfl,a⟩,ih b⟩
noncomputable def dM (names:List (Str×NameKind)):List Str:=(cellsFrom 0 names []).map (·.1)
noncomputable def dO:List Str->Nat->Loc
 |[],_=>[]
 |n::r,i=>(n,.cell i)::dO r (i+1)
theorem jT {kd:Str->Option NameKind}:∀{binds:List (Str×Value)} {m:Str->Option Value},(∀y∈binds,kd y.1=some .local)->∀x,bindL kd binds m x=match binds.reverse.lookup x with
  |some v=>some v
  |none=>m x
 |[],m,_,x=>rfl
 |(n,v)::r,m,h,x=>by
  unfold bindL
  rw[if_pos (h (n,v) (.head _)),jT (λy hy=>h y (.tail _ hy)),List.reverse_cons]
  have:∀(l:List (Str×Value)),(l++[(n,v)]).lookup x=match l.lookup x with
    |some v=>some v
    |none=>if x=n then some v else none:=by
   intro l
   induction l with
   |nil=>
    simp only[List.nil_append,List.lookup_cons,List.lookup_nil]
    by_cases e:x=n
    ·simp[e]
    ·have:(x==n)=false:=by simpa using e
     simp[this,e]
   |cons q l ih=>
    rw[bk,List.lookup_cons,List.lookup_cons,ih]
    cases x==q.1<;>rfl
  rw[this]
  cases r.reverse.lookup x with
  |some v=>rfl
  |none=>
   by_cases e:x=n
   ·simp[e]
   ·simp[e]
theorem jS {kd:Str->Option NameKind}:∀{binds:List (Str×Value)} {m:Str->Option Value},(∀y∈binds,kd y.1=some .local)->bindC kd binds m=m
 |[],m,_=>rfl
 |(n,v)::r,m,h=>by
  unfold bindC
  rw[if_pos (h (n,v) (.head _))]
  exact jS λy hy=>h y (.tail _ hy)
theorem fY:∀(l:List (Str×NameKind)) (k k':Nat) (a a':List (Str×Addr)),a.map (·.1)=a'.map (·.1)->(cellsFrom k l a).map (·.1)=(cellsFrom k' l a').map (·.1)
 |[],_,_,_,_,h=>h
 |(n,kd)::r,k,k',a,a',h=>by
  unfold cellsFrom
  by_cases e:(kd==NameKind.cell)=true
  ·rw[if_pos e,if_pos e]
   exact fY r _ _ _ _ (by simp[h])
  ·rw[if_neg e,if_neg e]
   exact fY r _ _ _ _ h
theorem fZ {lo:Nat}:∀(l:List (Str×NameKind)) (k:Nat) (a:List (Str×Addr)),lo<=k->(∀p∈a,lo<=p.2/\p.2<k)->(a.map (·.2)).Nodup->(∀p∈cellsFrom k l a,lo<=p.2)/\((cellsFrom k l a).map (·.2)).Nodup
 |[],_,_,_,h,nd=>⟨λp hp=>(h p hp).1,nd⟩
 |(n,kd)::r,k,a,hl,h,nd=>by
  unfold cellsFrom
  by_cases e:(kd==NameKind.cell)=true
  ·rw[if_pos e]
   refine fZ r _ _ (Nat.le_succ_of_le hl) (λp hp=>?_) ?_
   ·rcases bX.mp hp with q|q
    ·subst q;exact⟨hl,Nat.lt_succ_self _⟩
    ·exact⟨(h p q).1,Nat.lt_succ_of_lt (h p q).2⟩
   ·rw[bL,List.nodup_cons]
    refine⟨λhm=>?_,nd⟩
    refine b7 (bY.mp hm) λp hp q=>?_
    have:=(h p hp).2
    rw[q] at this
    exact Nat.lt_irrefl _ this
  ·rw[if_neg e]
   exact fZ r _ _ hl h nd
theorem rK {w:World} {G:Addr->Obj} {cm:Str->Option Value} (hcm:∀x,cm x=none) {cl:List (Str×Addr)} {cells:List (Addr×Obj)} (ca:CellsAre cm cl cells):∀{st:List SO} {aA:List (Addr×Obj)},Rep w G st aA->(∀p∈aA,∀c∈cl,p.1≠c.2)->(cl.map (·.2)).Nodup->
   Rep w G (st++cl.map λ_=>SO.cell none) (aA++cells)/\cells.map (·.1)=cl.map (·.2)/\Ext (adr aA) (adr (aA++cells))/\(∀x v,lk (dO (cl.map (·.1)) st.length) x=some v->∃i a,v=.cell i/\(x,a)∈cl/\(adr (aA++cells))[i]? =some a):=by
 induction ca with
 |nil=>intro st aA R _ _;exact⟨by simpa using R,rfl,by simpa using Ext.rfl',λ_ _ h=>nomatch h⟩
 |@cons n c o cs cells hd h ih=>
   intro st aA R ne nd
   rw[bL,List.nodup_cons] at nd
   have R1:Rep w G (st++[.cell none]) (aA++[(c,o)]):=R.push (λp hp=>ne p hp _ (.head _)) (by show o.data=_;rw[hd,hcm])
   obtain⟨R2,e2,x2,v2⟩:=ih R1 (λp hp c' hc'=>by
    rcases bN.mp hp with q|q
    ·exact ne p q c' (.tail _ hc')
    ·simp at q;subst q
     exact λe=>nd.1 (bY.mpr ⟨c',hc',e.symm⟩)) nd.2
   rw[bB,bB] at R2
   rw[bB] at x2 v2
   refine⟨by simpa using R2,by simp[e2],ext_push.trans x2,λx v hx=>?_⟩
   rw[bL] at hx
   unfold dO lk at hx
   cases g:seq n x with
   |true=>
    rw[g] at hx
    replace hx:=oS hx;subst hx
    have:=dI g
    subst this
    exact⟨st.length,c,rfl,.head _,x2.get (i4 R)⟩
   |false=>
    rw[g] at hx
    refine fP (v2 x v (by simpa using hx)) λi a h1 h2 h3=>?_
    exact⟨i,a,h1,.tail _ h2,h3⟩
theorem jC {x:Str} {a:Addr}:∀{l:List (Str×Addr)},(l.map (·.1)).Nodup->(x,a)∈l->l.lookup x=some a
 |p::r,nd,h=>by
  rw[bL,List.nodup_cons] at nd
  rw[List.lookup_cons]
  rcases bX.mp h with e|e
  ·subst e;simp
  ·have:(x==p.1)=false:=by
    have:x≠p.1:=λq=>nd.1 (bY.mpr ⟨(x,a),e,q⟩)
    simpa using this
   rw[this]
   exact jC nd.2 e
theorem s8 {α:Type} (x:Str):∀(l l':List (Str×α)),lk (l++l') x=match lk l x with
  |some v=>some v
  |none=>lk l' x
 |[],_=>rfl
 |p::r,l'=>by
  have ih:=s8 x r l'
  show(match seq p.1 x with|true=>some p.2|false=>lk (r++l') x)=match(match seq p.1 x with|true=>some p.2|false=>lk r x) with|some v=>some v|none=>lk l' x
  cases seq p.1 x with
  |true=>rfl
  |false=>exact ih
def sK (ih:Ih) (dn:Nat) (st:List SO) (r:FRow) (args:List SV):Tr (SV×List SO):=match dn with
 |0=>.no
 |k+1=>(ih.S ⟨r.qual,r.scope,r.f,r.cdv,k,none⟩ (st++(dM r.scope.names).map λ_=>SO.cell none) (dO (dM r.scope.names) st.length++(r.names.zip (args++r.dfl)).reverse) r.body).bind λx=>match x.1 with
  | .ret v=>.ret (v,x.2.1)
  | .next=>.ret (.none,x.2.1)
  |_=>.no
noncomputable abbrev dY (r:FRow) (k:Nat):Fn:=⟨r.qual,r.scope,r.f,r.cdv,k,none⟩
def m8 (r:FRow) (args:List SV) (n:Nat):Loc:=dO (dM r.scope.names) n++(r.names.zip (args++r.dfl)).reverse
def j3 (r:FRow):List SO:=(dM r.scope.names).map λ_=>SO.cell none
set_option backward.match.sparseCases true in
theorem fT (aH:prog=rw1.prog) {r:FRow} (ok:RowOk w r) {env:Env}
  (B:Below aZ base outer aY) (X:(K w.params).In aY) (T:Top p loose aC mg mb aY) (hA:A.frames=some (env::outer)) (hf:env.frame=some L.a) (hke:env.scope.kind=.function) (hh:A.handled=none)
  {k:Nat} (hd:A.depth+4*(k+1)<recursionLimit+2) (hu:A.units+20*(k+1)+90<cLine) {svs:List SV} {R:Result->Shared->Prop} (n:Now w G aY L loc st mm xs aA s.heap) (hv:RVs (adr aA) svs us) (hlen:svs.length=r.ar)
  (body:∀(g:Heap) (L':FL) (h₁:Heap) (tk:Nat) (aV:Str->Option Value) (aB:List (Addr×Obj)),Ext (adr aA) (adr aB)->Fr aY L.a g mm->
   Fx w (dY r k) (A.deeper ((dY r k).fenv L')) (env::outer) A base g L' p loose aC mg mb->
   Now w G g L' (m8 r svs st.length) (st++j3 r) aV xs aB h₁->
   ∀(Q':Flow->Shared->Prop) (E':Value->Shared->Prop),(∀fl s',(∃(L₂:Addr) (m':Str->Option Value) (nw:List (Addr×Obj)),Fr g L₂ s'.heap m'/\News g L₂ s'.heap nw/\(Fr aY L.a s'.heap mm->News aY L.a s'.heap nw->R (.ok (.ret (match fl with| .ret v=>v|_=>.none))) s'))->Q' fl s')->
   PassesOwn (model prog w) (A.deeper ((dY r k).fenv L')) ((dY r k).env L') E'->(∀e s',wpAny (model prog w) (A.deeper ((dY r k).fenv L')) (leaving ((dY r k).fenv L') e) (λ_ s''=>R (.error e) s'') (λe' s''=>R (.error e') s'') s'->E' e s')->
   wpAny (model prog w) (A.deeper ((dY r k).fenv L')) (execs r.body ((dY r k).fenv L')) Q' E' {s with heap:=h₁,toks:=tk}):
  codeAny (model prog w) A (.call (.ref r.f) ⟨us,[]⟩) R s:=by
 refine ZQ ok.fn λname params dV kV doc pm ct oc an od osl dv ho hdf hb=>?_
 have hlen':us.length=r.ar:=by rw[hv.len,hlen]
 have hloc:∀y∈r.names.zip (us++dv),r.scope.names.lookup y.1=some .local:=λy hy=>ok.names _ (List.of_mem_zip hy).1
 refine code_defC B n.F X n.NX T hA hf hke ho ok.code (by omega) (hb s us (X.keeps n.F.keep) hlen') ?_ ok.cell (λg L' h₁ tk cells FG F' N' CA B' X' T' lt=>?_) ok.co ok.gen ok.kind
 ·rw[bO]
  intro y hy
  rw[hloc y hy]
  rfl
 have hk2:∀y∈r.names.zip (us++dv),(envOfC r.qual r.scope L' r.f r.cdv).kindOf y.1=some .local:=hloc
 rw[jS hk2] at CA
 have hfst:(cellsFrom (L'+1) r.scope.names []).map (·.1)=dM r.scope.names:=fY _ _ _ _ _ rfl
 obtain⟨s1,s2⟩:=fZ (lo:=L'+1) r.scope.names (L'+1) [] (Nat.le_refl _) (λ_ h=>nomatch h) List.nodup_nil
 obtain⟨R1,ce,x1,cv⟩:=rK (G:=G) (λ_=>rfl) CA n.R (λq hq c hc e=>by
  have h1:=lt q (ay _ hq)
  have h2:=s1 c hc
  rw[e] at h1
  exact Nat.lt_irrefl _ (Nat.lt_of_lt_of_le (Nat.lt_succ_of_lt h1) h2)) s2
 have hcellNames:((cellsFrom (L'+1) r.scope.names []).map λ_=>SO.cell none)=(dM r.scope.names).map λ_=>SO.cell none:=by
  rw[<-hfst,List.map_map];rfl
 rw[hcellNames] at R1
 rw[hfst] at cv
 have C':Fx w ⟨r.qual,r.scope,r.f,r.cdv,k,none⟩ (A.deeper (envOfC r.qual r.scope L' r.f r.cdv)) (env::outer) A base g ⟨L',cellsFrom (L'+1) r.scope.names [],none⟩ p loose aC mg mb:=by
  refine⟨B',X',T',?_,rfl,ok.kind,hh,?_,?_⟩
  ·show Option.map _ A.frames=_;rw[hA];rfl
  ·simp only[Around.deeper];omega
  ·simp only[Around.deeper];omega
 have rk:=DY (DZ (ns:=r.names) (hv.app (hdf (adr aA))))
 have n':Now w G g ⟨L',cellsFrom (L'+1) r.scope.names [],none⟩ (dO (dM r.scope.names) st.length++(r.names.zip (svs++r.dfl)).reverse) (st++(dM r.scope.names).map λ_=>SO.cell none) (bindL (envOfC r.qual r.scope L' r.f r.cdv).kindOf (r.names.zip (us++dv)) λ_=>none) xs (aA++cells) h₁:=by
  refine⟨F',λq hq=>N' q ?_,(λ_ h=>by exact b5 h),λq hq z hz=>?_,R1,λx v hx=>?_⟩
  ·rw[<-bB] at hq
   rcases bN.mp hq with e|e
   ·exact ay _ e
   ·exact bK _ e
  ·rcases bN.mp hz with e|e
   ·exact n.off q hq z e
   ·intro e2
    have h1:=lt q (bK _ hq)
    have:z.1∈cells.map (·.1):=bY.mpr ⟨z,e,rfl⟩
    rw[ce] at this
    refine b7 (bY.mp this) λc hc e3=>?_
    have h2:=s1 c hc
    rw[e3,<-e2] at h2
    exact Nat.lt_irrefl _ (Nat.lt_of_lt_of_le (Nat.lt_succ_of_lt h1) h2)
  ·rw[s8] at hx
   cases g1:lk (dO (dM r.scope.names) st.length) x with
   |some v1=>
    rw[g1] at hx
    replace hx:=oS hx;subst hx
    refine fP (cv x _ g1) λi a h1 h2 h3=>?_
    subst h1
    exact⟨a,jC (l:=cellsFrom (L'+1) r.scope.names []) (by rw[hfst];exact ok.cell) h2,h3⟩
   |none=>
    rw[g1] at hx
    refine b7 (yE rk hx) λu hu hr=>?_
    refine jQ ⟨u,?_,hr.ext x1⟩
    show bindL _ _ _ x=some u
    rw[jT hk2,hu]
 exact body g ⟨L',cellsFrom (L'+1) r.scope.names [],none⟩ h₁ tk _ _ x1 FG C' n' _ _ (λ_ _ h=>h) PassesOwn.leaving λ_ _ h=>h
include I in
theorem sM (aH:prog=rw1.prog) {r:FRow} (ok:RowOk w r) {env:Env}
  (B:Below aZ base outer aY) (X:(K w.params).In aY) (T:Top p loose aC mg mb aY) (hA:A.frames=some (env::outer)) (hf:env.frame=some L.a) (hke:env.scope.kind=.function) (hh:A.handled=none)
  {dn:Nat} (hd:A.depth+4*dn<recursionLimit+2) (hu:A.units+20*dn+90<cLine) {svs:List SV} {φ:SV×List SO->Prop} (h:(sK ih dn st r svs).wp φ) {R:Result->Shared->Prop} (n:Now w G aY L loc st mm xs aA s.heap) (hv:RVs (adr aA) svs us) (hlen:svs.length=r.ar)
  (kk:∀v aT u aB h' aU,φ (v,aT)->Ext (adr aA) (adr aB)->Now w G aY L loc aT mm xs aB h'->RV (adr aB) v u->R (.ok (.ret u)) {s with heap:=h',toks:=aU}):
  codeAny (model prog w) A (.call (.ref r.f) ⟨us,[]⟩) R s:=by
 cases dn with
 |zero=>exact h.elim
 |succ k=>
  refine fT aH ok B X T hA hf hke hh hd hu n hv hlen λg L' h₁ tk aw aI x1 FG C' n1 Q' E' hQ PE hE=>?_
  refine I.S _ _ _ _ C' rfl (Tr.wp_bind h) PE (s:={s with heap:=h₁,toks:=tk}) n1 λf aT loc' fl aV aB h' aU af x n2 hfl=>?_
  replace x:=x1.trans x
  cases f with
  |ret v=>
   refine b7 hfl λu z1 hu=>?_;clear hfl;subst z1
   exact hQ _ _ ⟨L'.a,aV,xs++aB,n2.F,n2.NX,λF3 N3=>kk v aT u aB h' aU af x (n.ext F3 N3 n2.off n2.R x) hu⟩
  |next=>
   cases hfl
   exact hQ _ _ ⟨L'.a,aV,xs++aB,n2.F,n2.NX,λF3 N3=>kk .none aT .none aB h' aU af x (n.ext F3 N3 n2.off n2.R x) rfl⟩
  |brk=>exact af.elim
  |cont=>exact af.elim
noncomputable def lX:List FRow->Addr->Nat->Option FRow
 |[],_,_=>none
 |r::t,a,k=>match Nat.beq r.f a&&Nat.beq r.ar k with
  |true=>some r
  |false=>lX t a k
theorem k7 {a:Addr} {r:FRow}:∀{l:List FRow},lX l a k=some r->r∈l/\r.f=a/\r.ar=k
 |[],h=>nomatch h
 |x::t,h=>by
  unfold lX at h
  cases e:Nat.beq x.f a&&Nat.beq x.ar k with
  |true=>
   rw[e] at h
   replace h:=oS h;subst h
   simp only[bG] at e
   exact⟨.head _,bg e.1,bg e.2⟩
  |false=>
   rw[e] at h
   obtain⟨a,b⟩:=k7 h
   exact⟨.tail _ a,b⟩
noncomputable def pD:Nat->List Str->List (List Str)
 |0,_=>[[]]
 |n+1,l=>l.flatMap λx=>(pD n (l.erase x)).map (x::·)
theorem nP:∀{n:Nat} {l l':List Str},l'.Perm l->l.length=n->l'∈pD n l
 |0,l,l',h,e=>by
  have:l=[]:=bv e
  subst this
  rw[List.Perm.eq_nil h]
  exact .head _
 |n+1,l,[],h,e=>by
  have:=h.length_eq
  rw[e] at this
  cases this
 |n+1,l,x::t,h,e=>by
  obtain⟨h1,h2⟩:=List.cons_perm_iff_perm_erase.mp h
  refine List.mem_flatMap.mpr ⟨x,h1,bY.mpr ⟨t,nP h2 ?_,rfl⟩⟩
  rw[List.length_erase_of_mem h1,e]
  rfl
noncomputable def eqS:List Str->List Str->Bool
 |[],[]=>true
 |a::r,b::t=>match seq a b with
  |true=>eqS r t
  |false=>false
 |_,_=>false
theorem FS:∀{a b:List Str},eqS a b=true->a=b
 |[],[],_=>rfl
 |[],_::_,h=>by exact d9 h
 |_::_,[],h=>by exact d9 h
 |a::r,b::t,h=>by
  refine aBJ h λe h=>?_
  rw[dI e,FS h]
def sE (l:List Str):Option (List Str):=match Nat.ble l.length 4 with
 |true=>match(pD l.length l).filter sortedS with
  |r::t=>match t.all (eqS r) with
   |true=>some r
   |false=>none
  |[]=>none
 |false=>none
theorem sF {l r:List Str} (h:sE l=some r):l.length<=4:=by
 unfold sE at h
 refine jM h λhb h=>?_
 exact bA hb
theorem vO {l r ss:List Str} (h:sE l=some r) (hp:ss.Perm l) (hs:sortedS ss=true):ss=r/\l.length<=4:=by
 unfold sE at h
 refine jM h ?_;clear h;intro hb h
 refine⟨?_,bA hb⟩
 have hm:ss∈(pD l.length l).filter sortedS:=List.mem_filter.mpr ⟨nP hp rfl,hs⟩
 refine aBK h ?_;clear h;intro r' t e h
 rw[e] at hm
 refine jM h ?_;clear h;intro ha h
 replace h:=oS h;subst h
 rcases bX.mp hm with q|q
 ·exact q
 ·exact(FS (bO.mp ha ss q)).symm
theorem vQ {ws:List Value} {l:List Str} (h:StrsAre ws l):RVs ρ (l.map .str) ws:=by
 induction h with
 |nil=>trivial
 |cons y t h ih=>exact⟨⟨t,rfl⟩,ih⟩
def EI (st:List SO) (id:String) (args:List SV):Option (SV×List SO):=match args with
 |[.obj i]=>match st[i]? with
  |some (.list vs)=>match small vs with
   |true=>match decide (id="list.pop") with
    |true=>match vs.getLast? with
     |some v=>some (v,st.set i (.list vs.dropLast))
     |none=>none
    |false=>match decide (id="list.reverse") with
     |true=>some (.none,st.set i (.list vs.reverse))
     |false=>match decide (id="len") with
      |true=>some (.int vs.length,st)
      |false=>match decide (id="sorted") with
       |true=>match lH vs with
        |some l=>match sE l with
         |some r=>some (.obj st.length,st++[.list (r.map .str)])
         |none=>none
        |none=>none
       |false=>none
   |false=>none
  |some (.ud es)=>match Nat.ble es.length 1000 with
   |true=>match decide (id="len") with
    |true=>some (.int es.length,st)
    |false=>none
   |false=>none
  |_=>none
 |[.obj i,v]=>match st[i]? with
  |some (.list vs)=>match small vs with
   |true=>match decide (id="list.append") with
    |true=>some (.none,st.set i (.list (vs++[v])))
    |false=>none
   |false=>none
  |_=>none
 |_=>none
theorem fK {v:SV} (h:RVs ρ [v] us):∃u,us=[u]/\RV ρ v u:=All2.cs h λu _ e a b=>⟨u,All2.nl b▸e,a⟩
theorem fL {v v2:SV} (h:RVs ρ [v,v2] us):∃u u2,us=[u,u2]/\RV ρ v u/\RV ρ v2 u2:=All2.cs h λu _ e a b=>b7 (fK b) λu2 e2 c=>⟨u,u2,e2▸e,a,c⟩
theorem D1:∀{us:List Value} {v:SV},RVs ρ vs us->vs.getLast? =some v->∃p y,us=p++[y]/\RVs ρ vs.dropLast p/\RV ρ v y:=by
 induction vs with
 |nil=>intro us v _ h;exact b5 h
 |cons x r ih=>
  intro us v q h
  refine All2.cs q λu t e a b=>?_
  rw[e]
  cases r with
  |nil=>exact⟨[],u,by rw[All2.nl b];rfl,trivial,oS h▸a⟩
  |cons y t'=>
   rw[List.getLast?_cons_cons] at h
   exact fP (ih b h) λp z e2 h1 h2=>⟨u::p,z,by rw[e2];rfl,⟨a,h1⟩,h2⟩
theorem yH (h:RVs ρ vs us):RVs ρ vs.reverse us.reverse:=All2.rev h
theorem uQ (p:List Value) (y:Value):kl_last (p++[y])=some (p,y):=kpa_last y p
noncomputable def wB (st:List SO) (id:String) (args:List SV):Option (SV×List SO):=match args with
 |[.obj i]=>match st[i]? with
  |some (.listB n vs)=>match Nat.ble n 100000 with
   |true=>match decide (id="len") with
    |true=>some (.int vs.length,st)
    |false=>none
   |false=>none
  |_=>none
 |[.int m]=>match decide (id="abs") with
  |true=>some (.int (if m<0 then -m else m),st)
  |false=>none
 |[.bytes n b]=>match Nat.ble n 100000 with
  |true=>match decide (id="len") with
   |true=>some (.int b.size,st)
   |false=>none
  |false=>none
 |[.obj i,v]=>match st[i]? with
  |some (.listB n vs)=>match Nat.ble n 100000 with
   |true=>match decide (id="list.append") with
    |true=>some (.none,st.set i (.listB (n+1) (vs++[v])))
    |false=>match decide (id="list.pop") with
     |true=>match v,vs with
      | .int (.ofNat 0),x::r=>some (x,st.set i (.listB n r))
      |_,_=>none
     |false=>none
   |false=>none
  |_=>none
 |_=>none
theorem jZ {h:Heap} {L:Addr} (N:News aY L h aA) (R:Rep w G st aA) {i m:Nat} (hi:st[i]? =some (.listB m vs)) {a:Addr} (ha:(adr aA)[i]? =some a):
  ∃ws n,RVs (adr aA) vs ws/\aA[i]? =some (a,listOf ws.toArray n)/\h.IsList a ws.toArray/\vs.length<=m:=by
 have:DS st i=some vs:=by unfold DS;rw[hi]
 refine fP (i0 N R this ha) λws n h1 h2 h3=>?_
 refine qM (R.at_ i _ hi) λq hq _ hl=>?_
 exact⟨ws,n,h1,h2,h3,hl⟩
theorem AN {id:String} {args:List SV} {v:SV} {aT:List SO} (e:wB st id args=some (v,aT))
  (n:Now w G aY L loc st mm xs aA s.heap) (hv:RVs (adr aA) args us) {Q:Value->Shared->Prop}
  (k:∀u aB h' aU,Ext (adr aA) (adr aB)->Now w G aY L loc aT mm xs aB h'->RV (adr aB) v u->Q u {s with heap:=h',toks:=aU}):
  wpAny (model prog w) A (call (.builtin id) us) Q E s:=by
 unfold wB at e
 refine aBL e ?_ ?_ ?_ ?_<;>clear e
 ·intro i ez0 e;rw[ez0] at hv
  refine b7 (fK hv) λu z1 z2=>?_;subst z1
  refine b7 z2 λa ha z3=>?_;clear z2;subst z3
  refine YB e ?_;clear e;intro m vs hs e
  refine kS (jZ n.N n.R hs ha) λws q hw hq il hl=>?_
  refine jM e ?_;clear e;intro hb e
  replace hb:=bA hb
  have hwl:=hw.len
  refine zI e ?_;clear e;intro ez e;subst ez
  refine kX e λe1 e2=>?_;clear e;subst e1 e2
  refine len_list il (by simp only[bT];omega) (k _ aA s.heap (s.toks+1+1) .rfl' n ⟨s.toks+1,?_⟩)
  rw[bT,hw.len]
 ·intro m ez0 e;subst ez0
  refine b7 (fK hv) λu z1 z2=>?_;subst z1
  obtain⟨t,rfl⟩:=z2
  refine zI e ?_;clear e;intro ez e;subst ez
  refine kX e λe1 e2=>?_;clear e;rw[<-e1] at k;rw[<-e2] at k
  exact PyProof.Rows.call_abs_int λu tk=>k _ aA s.heap tk .rfl' n ⟨u,rfl⟩
 ·intro m b ez0 e;subst ez0
  refine qM (fK hv) λu z1 z2 hl=>?_;subst z1
  obtain⟨t,rfl⟩:=z2
  refine jM e ?_;clear e;intro hb e
  replace hb:=bA hb
  refine zI e ?_;clear e;intro ez e;subst ez
  refine kX e λe1 e2=>?_;clear e;rw[<-e1] at k;rw[<-e2] at k
  exact len_bytes (by omega) (k _ aA s.heap (s.toks+1+1) .rfl' n ⟨s.toks+1,rfl⟩)
 ·intro i v1 ez0 e;subst ez0
  refine fP (fL hv) λu u2 z1 z2 hv2=>?_;subst z1
  refine b7 z2 λa ha z3=>?_;clear z2;subst z3
  refine YB e ?_;clear e;intro m vs hs e
  refine kS (jZ n.N n.R hs ha) λws q hw hq il hl=>?_
  refine jM e ?_;clear e;intro hb e
  replace hb:=bA hb
  have hwl:=hw.len
  have hz:ws.length<=sizeLine:=by rw[sizeLine_eq];omega
  refine OF e ?_ ?_<;>clear e
  ·intro ez e;subst ez
   refine kX e λe1 e2=>?_;clear e;subst e1 e2
   obtain⟨U,N2,x2⟩:=n.upd (o':=listOf (ws++[u2]).toArray (q+1)) (so:=.listB (m+1) (vs++[v1])) hq ⟨⟨ws++[u2],q+1,hw.app ⟨hv2,trivial⟩,rfl⟩,by rw[bI];simpa using hl⟩
   exact append_K (its:=ws.toArray) (n:=q) n.F n.NX (by rw[List.push_toArray];exact U) (λh' F' N'=>k .none _ h' s.toks x2 (N2 F' N') rfl) (by rw[bT];exact hz)
  intro e
  refine zI e ?_;clear e;intro ez e;subst ez
  refine nI0 e λx r ez1 ez2 e=>?_;rw[ez1] at hv2;rw[ez1] at hv;rw[ez2] at hs;rw[ez2] at hw;rw[ez2] at hl;rw[ez2] at hwl
  refine kX e λe1 e2=>?_;clear e;rw[<-e1] at k;rw[<-e2] at k
  obtain⟨t,rfl⟩:=hv2
  cases ws with
  |nil=>exact hw.elim
  |cons y r'=>
    obtain⟨U,N2,x2⟩:=n.upd (o':=listOf r'.toArray (q+1)) (so:=.listB m r) hq ⟨⟨r',q+1,hw.2,rfl⟩,by simp at hl;omega⟩
    refine kl_popAt (k:=0) (p:=[]) (q:=r') (y:=y) n.F n.NX rfl ?_ rfl (by simpa using U) (by simpa using hz) λh' F' N'=>k y _ h' s.toks x2 (N2 F' N') (hw.1.ext x2)
    show seqIndex? 0 _=some 0
    unfold seqIndex?
    simp
def EQ (st:List SO) (id:String) (args:List SV):Option (SV×List SO):=match args with
 |[.obj i]=>match st[i]? with
  |some (.list vs)=>match small vs with
   |true=>match decide (id="list") with
    |true=>some (.obj st.length,st++[.list vs])
    |false=>none
   |false=>none
  |_=>none
 |_=>none
theorem ER {id:String} {args:List SV} {v:SV} {aT:List SO} (e:EQ st id args=some (v,aT))
  (n:Now w G aY L loc st mm xs aA s.heap) (hv:RVs (adr aA) args us) {Q:Value->Shared->Prop}
  (k:∀u aB h' aU,Ext (adr aA) (adr aB)->Now w G aY L loc aT mm xs aB h'->RV (adr aB) v u->Q u {s with heap:=h',toks:=aU}):
  wpAny (model prog w) A (call (.type id) us) Q E s:=by
 unfold EQ at e
 refine YC e ?_;clear e;intro i ez0 e;subst ez0
 refine b7 (fK hv) λu z1 z2=>?_;subst z1
 refine b7 z2 λa ha z3=>?_;clear z2;subst z3
 refine YD e ?_;clear e;intro vs hs e
 refine fP (cU n.N n.R hs ha) λws q hw hq il=>?_
 refine jM e ?_;clear e;intro hsm e
 refine zI e ?_;clear e;intro ez e;subst ez
 refine kX e λe1 e2=>?_;clear e;rw[<-e1] at k;rw[<-e2] at k
 refine kup_listOf n.F n.NX (ay _ (bD hq)) rfl (λD c h' F' N' lt=>?_) (by simpa using eH hsm hw)
 obtain⟨n2,x2,r2⟩:=n.push (so:=.list vs) F' N' lt ⟨ws,c,hw.ext ext_push,by simp⟩
 exact k _ _ h' s.toks x2 n2 r2
theorem EJ (aH:prog=rw1.prog) {id:String} {args:List SV} {v:SV} {aT:List SO} (e:EI st id args=some (v,aT))
  (n:Now w G aY L loc st mm xs aA s.heap) (hv:RVs (adr aA) args us) {Q:Value->Shared->Prop}
  (k:∀u aB h' aU,Ext (adr aA) (adr aB)->Now w G aY L loc aT mm xs aB h'->RV (adr aB) v u->Q u {s with heap:=h',toks:=aU}):
  wpAny (model prog w) A (call (.builtin id) us) Q E s:=by
 subst aH
 unfold EI at e
 refine aBM e ?_ ?_<;>clear e
 ·intro i ez0 e;subst ez0
  refine b7 (fK hv) λu z1 z2=>?_;subst z1
  refine b7 z2 λa ha z3=>?_;clear z2;subst z3
  refine YE e ?_ ?_<;>clear e
  ·intro vs hs e
   refine fP (cU n.N n.R hs ha) λws q hw hq il=>?_
   refine jM e ?_;clear e;intro hsm e
   have hz:=eH hsm hw
   refine OF e ?_ ?_<;>clear e
   ·intro ez e;subst ez
    refine aBN e ?_;clear e;intro v' hl e
    refine kX e λe1 e2=>?_;clear e;subst e1 e2
    refine fP (D1 hw hl) λp y z1 hp hy=>?_;rw[z1] at hw;rw[z1] at hq;rw[z1] at il;rw[z1] at hz
    refine jN (n.upd (o':=listOf p.toArray (q+1)) (so:=.list vs.dropLast) hq ⟨p,q+1,hp,rfl⟩) λU N2 x2=>?_
    exact kl_pop n.F n.NX (by simpa using uQ p y) U (by simpa using hz) λh' F' N'=>k y _ h' s.toks x2 (N2 F' N') (hy.ext x2)
   intro e
   refine OF e ?_ ?_<;>clear e
   ·intro ez e;subst ez
    refine kX e λe1 e2=>?_;clear e;subst e1 e2
    refine jN (n.upd (o':=listOf ws.reverse.toArray q) (so:=.list vs.reverse) hq ⟨ws.reverse,q,yH hw,rfl⟩) λU N2 x2=>?_
    exact kl_reverse n.F n.NX rfl (by simpa using U) (by simpa using hz) λh' F' N'=>k .none _ h' s.toks x2 (N2 F' N') rfl
   intro e
   refine OF e ?_ ?_<;>clear e
   ·intro ez e;subst ez
    refine kX e λe1 e2=>?_;clear e;subst e1 e2
    refine len_list il (by rw[sizeLine_eq] at hz;simp only[bT];omega) (k _ aA s.heap (s.toks+1+1) .rfl' n ⟨s.toks+1,?_⟩)
    rw[bT,hw.len]
   intro e
   refine zI e ?_;clear e;intro ez e;subst ez
   refine wY e λl hl e=>?_
   refine wY e λr hr e=>?_
   refine kX e λe1 e2=>?_;clear e;rw[<-e1] at k;rw[<-e2] at k
   have hS:=pF hl hw
   have hlen:ws.length=l.length:=StrsAre.length hS
   have h4:l.length<=4:=sF hr
   refine sorted_N_str n.F n.NX il hS (by omega) λh' vs' ss' c F' N' hS' hp hs=>?_
   obtain⟨e1,_⟩:=vO hr hp hs
   rw[<-e1] at hr;rw[<-e1] at k
   refine jN (n.push (so:=.list (ss'.map .str)) F' N' (λp hp=>Nat.lt_succ_of_lt (Heap.lt_size (n.NX p hp).1)) ⟨vs',c,vQ hS',rfl⟩) λn2 x2 r2=>?_
   exact k _ _ h' s.toks x2 n2 r2
  ·intro es hs e
   refine kS (qZ n.N n.R hs ha) λod kvs hk hq hd lo=>?_
   refine jM e ?_;clear e;intro hb e
   replace hb:=bA hb
   refine zI e ?_;clear e;intro ez e;subst ez
   refine kX e λe1 e2=>?_;clear e;subst e1 e2
   have hD:=kda_dict (s:=s) n.N (bD hq) hd
   refine call_len_dict lo hD (by rw[hk.len];omega) (k _ aA s.heap (s.toks+1+1) .rfl' n ⟨s.toks+1,?_⟩)
   rw[hk.len]
 ·intro i v1 ez0 e;subst ez0
  refine fP (fL hv) λu u2 z1 z2 hv2=>?_;subst z1
  refine b7 z2 λa ha z3=>?_;clear z2;subst z3
  refine YD e ?_;clear e;intro vs hs e
  refine fP (cU n.N n.R hs ha) λws q hw hq il=>?_
  refine jM e ?_;clear e;intro hsm e
  have hz:=eH hsm hw
  refine zI e ?_;clear e;intro ez e;subst ez
  refine kX e λe1 e2=>?_;clear e;rw[<-e1] at k;rw[<-e2] at k
  refine jN (n.upd (o':=listOf (ws++[u2]).toArray (q+1)) (so:=.list (vs++[v1])) hq ⟨ws++[u2],q+1,hw.app ⟨hv2,trivial⟩,rfl⟩) λU N2 x2=>?_
  exact append_K (its:=ws.toArray) (n:=q) n.F n.NX (by rw[List.push_toArray];exact U) (λh' F' N'=>k .none _ h' s.toks x2 (N2 F' N') rfl) (by rw[bT];exact hz)
end
end Mine.R
namespace Mine
theorem t9:typeLookup (.type "int") "__bytes__"=pure none:=by rw[typeLookup_type,builtinLookup_eq_fast];kernel_rfl
theorem ED:typeLookup (.type "int") "__index__"=pure (some (.builtin "int.__index__")):=by rw[typeLookup_type,builtinLookup_eq_fast];kernel_rfl
section
variable {prog:Program} {w:World} {A:Around} {E:Value->Shared->Prop} {s:Shared}
theorem PX {n:Int} {t:Tok} {Q:Value->Shared->Prop} (h0:0<=n) (hn:n<=100000)
  (hQ:∀t' k,Q (.bytes (Array.replicate n.toNat 0) t') {s with toks:=k}):
  codeAny (model prog w) A (.call (.builtin "bytes.__new__") ⟨[.type "bytes",.int n t],[]⟩) (wants Q E) s:=by
 refine codeAny_of_tree ?_
 show wpAny _ A.in1 (do checkBuiltinCall "bytes.__new__" ⟨[.type "bytes",.int n t],[]⟩;again (.builtin "bytes.__new__" ⟨[.type "bytes",.int n t],[]⟩)) _ _ s
 refine wpAny_bind (wpAny_of_eq (F.bm_newCall _) (wpAny_pure ⟨plainId_quiet F.bm_plain _,codeAny_builtin F.bm_entry ?_⟩))
 rw[Around.under_plainId F.bm_plain _]
 have hT:s.TypeIs (.int n t) "int":=typeIs_int _ _ _
 unfold Builtin.«bytes.__new__»
 refine wpAny_bind (wpAny_of_eq (a:=true) rfl ?_)
 refine bm_if_false rfl ?_
 refine wpAny_bind (wpAny_of_eq F.bm_sub ?_)
 refine bm_if_false rfl ?_
 refine wpAny_bind (wpAny_of_eq (F.bm_bind _) ?_)
 refine wpAny_bind (wpAny_of_eq (a:=()) rfl ?_)
 refine wpAny_bind (wpAny_of_eq (a:=()) rfl ?_)
 refine bm_if_false rfl ?_
 refine wpAny_bind (wpAny_specialOf hT t9 ?_)
 refine wpAny_bind (wpAny_of_eq (a:=false) rfl ?_)
 refine bm_if_false rfl ?_
 refine wpAny_bind (wpAny_specialOf hT ED ?_)
 refine bm_if_false rfl ?_
 refine wpAny_bind (wpAny_of_eq (a:=Except.ok n) rfl ?_)
 have f1:(!Builtin.Bytes.fitsIndex n)=false:=by
  unfold Builtin.Bytes.fitsIndex
  simp only[Bool.not_eq_false',bG,decide_eq_true_eq]
  omega
 have f2:¬(n<0):=by omega
 have f3:¬(n>2 ^ 63-34):=by omega
 have f4:Builtin.Bytes.tooLong n.toNat=false:=by
  unfold Builtin.Bytes.tooLong
  simp only[decide_eq_false_iff_not,Nat.not_lt]
  rw[sizeLine_eq]
  omega
 have f5:¬((Array.replicate n.toNat (0:UInt8)).size>sizeLine):=by
  rw[Array.size_replicate,sizeLine_eq]
  omega
 simp only[f1,f2,f3,f4,if_false,bW]
 refine wpAny_bind (wpAny_rule ?_)
 refine wpAny_bind ?_
 unfold mkBytes
 rw[if_neg f5]
 refine wpAny_bind (wpAny_fresh ?_)
 refine wpAny_pure ?_
 exact wpAny_pure (hQ _ _)
theorem pO {n:Int} {t:Tok} {Q:Value->Shared->Prop} (h0:0<=n) (hn:n<=100000)
  (hQ:∀t' k,Q (.bytes (Array.replicate n.toNat 0) t') {s with toks:=k}):wpAny (model prog w) A (call (.type "bytes") [.int n t]) Q E s:=by
 refine callType_codes (Q₁:=λobj s₁=>s₁.TypeIs obj "bytes"/\Q obj s₁) F.bm_called (F.bm_typeCall _) F.entry_object_init
  (PX h0 hn λt k=>⟨PySem.W.typeIs_bytes _ _ _,hQ t k⟩) λobj s₁ h₁=>?_
 exact⟨h₁.1,F.args_object_init_2 obj _,object_init_meets F.bm_called.init.lookup F.bm_called.made (by decide) prog w A.in1 _ s₁ ⟨h₁.1,rfl,h₁.2⟩⟩
end
end Mine
end
section
open PySem PySem.W PySem.Calls PySem.SeqAt PyProof.Rows
namespace Mine
theorem iW:Slot "bytes" "strip" "bytes.strip":=
 .of (owner:="bytes") (n:="strip") (by rw[typeLookup_type,builtinLookup_eq_fast];kernel_rfl) (by decide +kernel) (by decide +kernel) (by decide +kernel)
  (by first|exact .inl (by decide +kernel)|exact .inr (by decide +kernel)) (by rw[isSubtype_type];kernel_rfl)
theorem nE:typeOf (.builtin "bytes.strip")=pure (.type "method_descriptor"):=by show builtinType _=_;rw[builtinType_eq_fast];kernel_rfl
theorem lV:entryFor table "bytes.strip"=some Builtin.«bytes.strip»:=entryFor_of_tree (by kernel_rfl)
theorem mR (a b:Value):argsOk "bytes.strip" ⟨[a,b],[]⟩:=by unfold argsOk;kernel_rfl
noncomputable def fW (o:Array UInt8):Array UInt8:=
 let k:=((o.toList.dropWhile (#[(0:UInt8)].contains)).reverse.dropWhile (#[(0:UInt8)].contains)).reverse
 if (k.length==o.size)=true then o else k.toArray
theorem i5 {α:Type} (p:α->Bool):∀l:List α,(l.dropWhile p).length<=l.length
 |[]=>Nat.le_refl _
 |a::r=>by
  rw[List.dropWhile_cons]
  split
  ·exact Nat.le_succ_of_le (i5 p r)
  ·exact Nat.le_refl _
theorem nV (o:Array UInt8):(fW o).size<=o.size:=by
 unfold fW
 dsimp only
 split
 ·exact Nat.le_refl _
 ·rw[bT,List.length_reverse]
  refine bl (i5 _ _) ?_
  rw[List.length_reverse]
  refine bl (i5 _ _) ?_
  simp
section
variable {prog:Program} {w:World} {A:Around} {E:Value->Shared->Prop} {s:Shared}
theorem wD {o:Array UInt8} {t t2:Tok} {Q:Value->Shared->Prop} (hz:o.size<=sizeLine) (h:∀t' k,Q (.bytes (fW o) t') {s with toks:=k}):
  wpAny (model prog w) A (call (.builtin "bytes.strip") [.bytes o t,.bytes #[0] t2]) Q E s:=by
 refine call_meets iW (typeIs_bytes _ _ _) lV (mR _ _) (S:=λA R s=>∀t' k,R (.ok (.ret (.bytes (fW o) t'))) {s with toks:=k}) ?_ h
 intro prog w A R s hs
 unfold Builtin.«bytes.strip» Builtin.Bytes.stripM
 refine wpAny_bind (wpAny_of_eq (a:=(.bytes o t,[.bytes #[0] t2])) (by kernel_rfl) ?_)
 dsimp only
 refine wpAny_bind (wpAny_bind (wpAny_of_eq (a:=some #[0]) (by kernel_rfl) ?_))
 refine wpAny_pure ?_
 refine wpAny_bind (wpAny_pure ?_)
 refine wpAny_bind (wpAny_of_eq (a:=o) (by kernel_rfl) ?_)
 simp only[if_true]
 have hs':=hs
 have hsz:=nV o
 unfold fW at hs' hsz
 dsimp only at hs' hsz
 split
 ·rename_i hc
  rw[if_pos hc] at hs'
  refine wpAny_bind (wpAny_rule ?_)
  refine wpAny_bind (wpAny_of_eq (a:=Value.bytes o t) (by first|rfl|kernel_rfl) ?_)
  exact wpAny_pure (hs' t s.toks)
 ·rename_i hc
  rw[if_neg hc] at hs' hsz
  refine wpAny_bind ?_
  show wpAny _ _ (mkBytes _) _ _ _
  unfold mkBytes
  rw[if_neg (by omega)]
  refine wpAny_bind (wpAny_fresh ?_)
  refine wpAny_pure ?_
  exact wpAny_pure (hs' _ _)
theorem tC {o:Array UInt8} {t:Tok} {pl:Sem Bool} {Q:Value×List Value->Shared->Prop} (h:Q (.builtin "bytes.strip",[.bytes o t]) s):wpAny (model prog w) A (getMethod (.bytes o t) "strip" pl) Q E s:=
 getMethod_builtin (typeIs_bytes _ _ _) FB.plainAttrs_bytes iW nE (λa e=>nomatch e) h
end
end Mine
end
section
open PySem PySem.W PyProof.Rows PySem.Calls
namespace Mine
section
variable {prog:Program} {w:World} {A:Around} {E:Value->Shared->Prop} {s:Shared} {aY:Heap} {L:Addr} {m:Str->Option Value} {aA:List (Addr×Obj)}
noncomputable def vN (x0 x1:Str) (u v:Value):List Value:=if decide (x1.cps.toList<x0.cps.toList) then [v,u] else [u,v]
theorem M9 {l a0 a1:Addr} {o0 o1:Obj} {x0 x1:Str} {t0 t1:Tok} {ys0 ys1:List Value} {n0 n1:Nat} {Q:Value->Shared->Prop} (F:Fr aY L s.heap m) (N:News aY L s.heap aA) (hl:s.heap.IsList l [Value.ref a0,Value.ref a1].toArray)
  (h0:(a0,o0)∈aA) (c0:o0.cls=.type "tuple") (d0:o0.data=.seq (Value.str x0 t0::ys0).toArray n0) (h1:(a1,o1)∈aA) (c1:o1.cls=.type "tuple") (d1:o1.data=.seq (Value.str x1 t1::ys1).toArray n1) (ne:x0≠x1)
  (k:∀D h' e,Fr aY L h' m->News aY L h' ((D,listOf (vN x0 x1 (.ref a0) (.ref a1)).toArray e)::aA)->(∀q∈aA,q.1<D)->Q (.ref D) {s with heap:=h'}):
  wpAny (model prog w) A (call (.builtin "sorted") [.ref l]) Q E s:=by
 refine kat_sorted F N hl (by simp) (by simp) λD e1 h' F' N' lt=>?_
 refine kat_kind (fs:=[.str x0 t0,.str x1 t1]) (T:=.type "str") (KatTups.cons (N' _ (.tail _ h0)).1 c0 d0 rfl (KatTups.cons (N' _ (.tail _ h1)).1 c1 d1 rfl .nil)) (by simp) (λv hv=>?_) rfl ?_
 ·rcases bX.mp hv with rfl|hv
  ·exact .of_pure rfl
  ·rcases bX.mp hv with rfl|hv
   ·exact .of_pure rfl
   ·exact nomatch hv
 have cont:∀c,c=decide (x1.cps.toList<x0.cps.toList)->∀p:Array Nat,p=(match c with|true=>#[1,0]|false=>#[0,1])->KasFin aY L m D e1 (p.toList.map λi=>[Value.ref a0,Value.ref a1].getD i Value.none) (λs3=>Q (.ref D) s3) {s with heap:=h'}:=by
  intro c hc p hp
  refine KasFin.intro F' N' (.head λq hq=>Nat.ne_of_lt (lt q hq)) λh2 e2 F2 N2=>?_
  have e:(p.toList.map λi=>[Value.ref a0,Value.ref a1].getD i Value.none)=vN x0 x1 (.ref a0) (.ref a1):=by
   unfold vN
   rw[<-hc,hp]
   cases c<;>rfl
  rw[e] at N2
  exact k D h2 e2 F2 N2 lt
 show kas_ask prog w _ _ _ 1 0 _ _
 refine kat_lt (N' _ (.tail _ h1)).1 d1 (N' _ (.tail _ h0)).1 d0 ?_
 show KatLex _ _ _ _ _ _ ((Value.str x1 t1,Value.str x0 t0)::(ys1.zip ys0)) 0 _
 refine kat_cons (eqBool_str ?_)
 rw[show(x1==x0)=false from by simpa using Ne.symm ne]
 refine kat_no (oneLt_str ?_)
 cases hc:decide (x1.cps.toList<x0.cps.toList) with
 |true=>
  have e:kas_rev (List.range 2).toArray 0 2=#[1,0]:=by decide +kernel
  exact cont true hc.symm (kas_rev (List.range 2).toArray 0 2) e
 |false=>exact cont false hc.symm (List.range 2).toArray rfl
end
end Mine
end
section
open PySem PySem.W PyProof.Rows PySem.Calls PySem.SeqAt
namespace Mine.R
open Mine
section
variable {prog:Program} {w:World} {A:Around} {E:Value->Shared->Prop} {s:Shared}
theorem xQ {a:Addr} {vs:List Value} {n:Nat} {P:PySem.Fin->Shared->Prop} (ho:s.heap.get? a=some (seqObj "list" vs.toArray n)) (h2:vs.length<2)
  (h:P (.done (.ret .none)) {s with heap:=sortedHeap s.heap a vs vs.toArray}):
  wpAny (model prog w) A (Builtin.«list.sort» ⟨[.ref a],[]⟩) P E s:=by
 rw[list_sort_plain]
 have ha:a<s.heap.objs.size:=Heap.lt_size ho
 refine wpAny_bind (listItems_at ho rfl ?_)
 refine wpAny_bind (listUpdate_at ho rfl ?_)
 obtain⟨e1,ho1⟩:∃e1,(s.heap.update a (Obj.mapSeq λ_=>#[])).get? a=some (seqObj "list" #[] e1):=⟨_,get?_update_seq ho (λ_=>#[])⟩
 refine wpAny_bind (seqEpoch_at ho1 rfl ?_)
 refine wpAny_bind (wpAny_newTuple ?_ (by show vs.toArray.toList.length<=_;simp only[];rw[sizeLine_eq];omega))
 refine wpAny_bind (wpAny_newList ?_ (by rw[sizeLine_eq];simp))
 refine wpAny_holding ?_
 have ho6:(((s.heap.update a (Obj.mapSeq λ_=>#[])).push (seqObj "tuple" vs.toArray 0)).push (seqObj "list" #[] 0)).get? a=some (seqObj "list" #[] e1):=by
  rw[Heap.get?_push_ne _ _ _ (by rw[size_push',Heap.size_update];exact Nat.ne_of_lt (Nat.lt_succ_of_lt ha)),Heap.get?_push_ne _ _ _ (by rw[Heap.size_update];exact Nat.ne_of_lt ha)]
  exact ho1
 show wpAny (model prog w) A _ P E {s with heap:=((s.heap.update a (Obj.mapSeq λ_=>#[])).push (seqObj "tuple" vs.toArray 0)).push (seqObj "list" #[] 0)}
 dsimp only
 have hsz:vs.toArray.size=vs.length:=by simp
 have h2':vs.toArray.size<2:=by rw[hsz];exact h2
 rw[if_pos h2',if_pos h2']
 refine wpAny_bind (wpAny_pure ?_)
 rw[StateT.run_pure]
 refine wpAny_bind (wpAny_pure ?_)
 dsimp only
 refine wpAny_bind (seqEpoch_at ho6 rfl ?_)
 refine wpAny_bind (listUpdate_at ho6 rfl ?_ (hsz2:=by rw[Array.size_map];show(pairsOf vs).size<=_;rw[pairsOf_size,sizeLine_eq];omega))
 simp only[bne_self_eq_false,bW,if_false]
 refine wpAny_pure ?_
 have e:((arrOf (SortSt.mk' general' (vs.toArray.zip vs.toArray) #[] 7 none)).map (·.2))=vs.toArray:=by
  show(vs.toArray.zip vs.toArray).map (·.2)=vs.toArray
  apply Array.toList_inj.mp
  rw[Array.toList_map,Array.toList_zip]
  exact List.map_snd_zip (Nat.le_refl _)
 have h':=h
 rw[<-e] at h'
 exact h'
theorem mO {L:Addr} {m:Str->Option Value} {l:Addr} {vs:List Value} {Q:Value->Shared->Prop} (F:Fr aY L s.heap m) (N:News aY L s.heap aA) (hl:s.heap.IsList l vs.toArray) (h2:vs.length<2)
  (h:∀(h':Heap) (e:Nat),Fr aY L h' m->News aY L h' ((s.heap.objs.size+1,seqObj "list" vs.toArray e)::aA)->Q (.ref (s.heap.objs.size+1)) {s with heap:=h'}):
  wpAny (model prog w) A (call (.builtin "sorted") [.ref l]) Q E s:=by
 refine Calls.call_function_entry kind_sorted plain_sorted entry_sorted (args_sorted1 _) ?_
 unfold Builtin.«sorted»
 refine wpAny_bind (m:=checkCount "sorted" 1 1 _) (wpAny_pure ?_)
 refine wpAny_bind (collect_list hl ?_ (by rw[sizeLine_eq];omega))
 refine wpAny_bind (wpAny_newList ?_ (by rw[sizeLine_eq];omega))
 have hsz:((s.heap.push (seqObj "list" #[] 0)).update s.heap.objs.size (Obj.mapSeq (· ++vs.toArray))).objs.size=s.heap.objs.size+1:=by
  rw[Heap.size_update,size_push']
 have hoL:(((s.heap.push (seqObj "list" #[] 0)).update s.heap.objs.size (Obj.mapSeq (· ++vs.toArray))).push (seqObj "list" vs.toArray 0)).get? (s.heap.objs.size+1)=some (seqObj "list" vs.toArray 0):=by
  rw[<-hsz];exact Heap.get?_push_size _ rfl
 show wpAny _ _ _ _ _ {s with heap:=((s.heap.push (seqObj "list" #[] 0)).update s.heap.objs.size (Obj.mapSeq (· ++vs.toArray))).push (seqObj "list" vs.toArray 0)}
 rw[hsz]
 obtain⟨e,he⟩:=sortedAll_at s.heap vs vs.toArray
 refine wpAny_bind (wpAny_holding (wpAny_call_entry slot_list_sort ⟨_,hoL,rfl⟩ entry_list_sort (xQ hoL h2 ⟨_,rfl,?_⟩) (args_list_sort _)))
 exact wpAny_pure ⟨_,rfl,h _ e (F.kept λ_ _=>sortedAll_old) (N.kept_cons F (λ_ _=>sortedAll_old) (Nat.le_succ _) he)⟩
theorem DF {L D:Addr} {m:Str->Option Value} {vs:List Value} {ss:List Str} {Q:Value->Shared->Prop} (F:Fr aY L s.heap m) (N:News aY L s.heap ((D,listOf vs.toArray 0)::aA)) (lt:∀q∈aA,q.1<D) (hS:StrsAre vs ss) (h64:vs.length<64)
  (h:∀(h':Heap) (vs':List Value) (ss':List Str) (e:Nat),Fr aY L h' m->News aY L h' ((D,listOf vs'.toArray e)::aA)->StrsAre vs' ss'->ss'.Perm ss->sortedS ss'=true->Q .none {s with heap:=h'}):
  wpAny (model prog w) A (call (.builtin "list.sort") [.ref D]) Q E s:=by
 have hoL:s.heap.get? D=some (seqObj "list" vs.toArray 0):=(N _ (.head _)).1
 refine wpAny_call_entry slot_list_sort ⟨_,hoL,rfl⟩ entry_list_sort (list_sort_treeK strKind_oneLt hoL hS.keysOf (λv₁ v₂ rest e=>keyKind_strs (by rw[<-e];exact hS)) h64 λaT hp hs=>⟨_,rfl,?_⟩) (args_list_sort _)
 refine qM (sorted_out_str hS hp hs) λss' h1 h2 h3=>?_
 obtain⟨e,he⟩:=sortedHeap_at (out:=(arrOf aT).map (·.2)) hoL
 have old:∀b o,b≠D->s.heap.get? b=some o->(sortedHeap s.heap D vs ((arrOf aT).map (·.2))).get? b=some o:=λb o hb ho=>by
  rw[sortedHeap_old hb (Heap.lt_size ho)];exact ho
 have nD:=N _ (.head _)
 refine q32 F.ns λoL a1 a2 hL a3=>?_
 refine h _ ((arrOf aT).map (·.2)).toList ss' e ⟨⟨oL,a1,a2,old _ _ (Ne.symm nD.2.1) hL,a3⟩,λb o ho=>old b o (λq=>by rw[q,nD.2.2] at ho;exact b5 ho) (F.keep b o ho),F.above⟩ (λp hp=>?_) h1 h2 h3
 rcases bX.mp hp with rfl|hp
 ·exact⟨by rw[Array.toArray_toList];exact he,nD.2⟩
 ·have:=N p (.tail _ hp)
  exact⟨old _ _ (Nat.ne_of_lt (lt p hp)) this.1,this.2⟩
end
noncomputable def wO:List SV->Option (List Int)
 |[]=>some []
 |v::r=>match v with
  | .int n=>match wO r with
   |some l=>some (n::l)
   |none=>none
  |_=>none
noncomputable def xD (ns:List Int):Bool:=ns.all λn=>decide (0<=n/\n<256)
theorem AY:∀{us:List Value} {ns:List Int},wO vs=some ns->RVs ρ vs us->IntsAre us ns/\ns.length=us.length:=by
 induction vs with
 |nil=>intro us ns e h;rw[<-oS e,All2.nl h];exact⟨.nil,rfl⟩
 |cons v r ih=>
  intro us ns e h
  refine All2.cs h λu t ez hv hr=>?_
  rw[ez]
  refine aBO (d0:=v) e ?_;clear e;intro n ez0 e;rw[ez0] at hv
  refine aBP e λl hl e=>?_
  rw[<-oS e]
  obtain⟨i1,i3⟩:=ih hl hr
  obtain⟨tk,rfl⟩:=hv
  exact⟨.cons _ _ i1,congrArg (· +1) i3⟩
noncomputable def gW (ns:List Int):Array UInt8:=(ns.map λn=>n.toNat.toUInt8).toArray
noncomputable def sY (l:List UInt8):Bool:=match l with
 |[x]=>Nat.beq x.toNat 0
 |_=>false
theorem wP {z:Array UInt8} (h:sY z.toList=true):z=#[0]:=by
 unfold sY at h
 refine aBQ h λx hx h=>?_
 have:x=0:=UInt8.toNat_inj.mp (bg h)
 rw[this] at hx;rw[this] at h
 apply Array.toList_inj.mp
 rw[hx]
theorem tR {es:List (Str×SV)}:∀{kvs:List (Str×Value)} {vs:List Value},RK ρ es kvs->vs.length=kvs.length->(∀(j:Nat) (v:Value),vs[j]? =some v->∃k x,kvs[j]? =some (k,x)/\(PySem.strKind rw1.prog w).is k v=true)->StrsAre vs (es.map (·.1)):=by
 induction es with
 |nil=>
  intro kvs vs h hl _
  rw[All2.nl h] at hl
  rw[bv hl]
  exact .nil
 |cons p r ih=>
  intro kvs vs h hl hv
  refine All2.cs h λq t ez hk hr=>?_
  rw[ez] at hl hv
  cases vs with
  |nil=>cases hl
  |cons v vs=>
   refine iJ (hv 0 v rfl) λk x h1 h2=>?_
   have h1:q=(k,x):=oS h1
   have:∃t,v=.str k t:=by
    cases v with
    |str y t=>
     have:y=k:=by simpa [PySem.strKind,Value.isStrOf] using h2
     exact⟨t,by rw[this]⟩
    |_=>exact d9 h2
   obtain⟨tk,e⟩:=this
   rw[bL,hk.1,h1,e]
   exact .cons k tk (ih hr (Nat.succ.inj hl) λj v hj=>hv (j+1) v hj)
noncomputable def sQ:Option SO->Option Str
 |some (.tup (.str x::_))=>some x
 |_=>none
noncomputable def tM (x y:Str) (u v:SV):List SV:=match decide (y.cps.toList<x.cps.toList) with
 |true=>[v,u]
 |false=>[u,v]
def J8 (st:List SO) (v1 v2:SV):Option (SV×List SO):=match v1,v2 with
 | .obj i1,.obj i2=>match sQ st[i1]?,sQ st[i2]? with
  |some x,some y=>match seq x y with
   |true=>none
   |false=>some (.obj st.length,st++[.list (tM x y (.obj i1) (.obj i2))])
  |_,_=>none
 |_,_=>none
theorem nI {o:Option SO} {x:Str} (h:sQ o=some x):∃r,o=some (.tup (.str x::r)):=by
 unfold sQ at h
 refine aBR h ?_;clear h;intro _ _ ez0 h;subst ez0
 replace h:=oS h;subst h;exact⟨_,rfl⟩
noncomputable def NV (v:SV):Bool:=match v with
 | .lit t=>match t with
  | .type s=>decide (s="str")
  |_=>false
 |_=>false
theorem GI {v:SV} (h:NV v=true):v=.lit (.type "str"):=by
 cases v with
 |lit t=>cases t with
  |type s=>rw[of_decide_eq_true h]
  |_=>exact d9 h
 |_=>exact d9 h
def EV (st:List SO) (id:String) (args:List SV):Option (SV×List SO):=match decide (id="list.extend") with
 |true=>match args with
  |[.obj i,.obj j]=>match st[i]?,st[j]? with
   |some (.listB n vs),some (.list ws)=>match Nat.ble n 1000&&small ws&&!Nat.beq i j with
    |true=>some (.none,st.set i (.listB (n+ws.length) (vs++ws)))
    |false=>none
   |_,_=>none
  |_=>none
 |false=>match decide (id="isinstance") with
  |true=>match args with
   |[v,t]=>match NV t with
    |true=>match v with
     | .str _=>some (.bool true,st)
     | .obj j=>match st[j]? with
      |some (.tup _)=>some (.bool false,st)
      |_=>none
     |_=>none
    |false=>none
   |_=>none
  |false=>match decide (id="bytes.strip") with
   |true=>match args with
    |[.bytes n o,.bytes _ z]=>match Nat.ble n 100000&&sY z.toList with
     |true=>some (.bytes n (fW o),st)
     |false=>none
    |_=>none
   |false=>match decide (id="sorted") with
    |true=>match args with
     |[.obj i]=>match st[i]? with
      |some (.ud es)=>match sE (es.map (·.1)) with
       |some r=>some (.obj st.length,st++[.list (r.map .str)])
       |none=>none
      |some (.list vs)=>match vs with
       |[]=>some (.obj st.length,st++[.list []])
       |[v]=>some (.obj st.length,st++[.list [v]])
       |[v1,v2]=>J8 st v1 v2
       |_=>none
      |_=>none
     |_=>none
    |false=>none
def wC (st:List SO) (id:String) (args:List SV):Tr (SV×List SO):=match args with
 |[.obj i]=>match st[i]? with
  |some (.list vs)=>match small vs with
   |true=>match decide (id="bytes") with
    |true=>match wO vs with
     |some ns=>.br (xD ns) (.ret (.bytes ns.length (gW ns),st)) .no
     |none=>.no
    |false=>match decide (id="tuple") with
     |true=>.ret (.obj st.length,st++[.tup vs])
     |false=>.no
   |false=>.no
  |some (.listB n vs)=>match Nat.ble n 1000 with
   |true=>match decide (id="tuple") with
    |true=>.ret (.obj st.length,st++[.tup vs])
    |false=>.no
   |false=>.no
  |_=>.no
 |[.int n]=>match decide (id="bytes") with
  |true=>.br (decide (0<=n/\n<=100000)) (.ret (.bytes n.toNat (Array.replicate n.toNat 0),st)) .no
  |false=>.no
 |_=>.no
section
variable {w:World} {prog:Program}
theorem GJ {Q:Value->Shared->Prop} (hT:s.TypeIs u "str") (h:Q (.bool true) s):wpAny (model prog w) A (call (.builtin "isinstance") [u,.type "str"]) Q E s:=
 call_isinstance (isinstance_true (Tx:="str") (T:="str") (by first|rfl|kernel_rfl) (by rw[isSubtype_type];kernel_rfl)) ⟨hT,h⟩
theorem J9 {v1 v2 v:SV} {aT:List SO} (e:J8 st v1 v2=some (v,aT)) {u1 u2:Value} {l:Addr}
  (n:Now w G aY L loc st mm xs aA s.heap) (hv1:RV (adr aA) v1 u1) (hv2:RV (adr aA) v2 u2) (il:s.heap.IsList l [u1,u2].toArray) {Q:Value->Shared->Prop}
  (k:∀u aB h' aU,Ext (adr aA) (adr aB)->Now w G aY L loc aT mm xs aB h'->RV (adr aB) v u->Q u {s with heap:=h',toks:=aU}):wpAny (model prog w) A (call (.builtin "sorted") [.ref l]) Q E s:=by
 unfold J8 at e
 refine X8 e ?_;clear e;intro i1 i2 ez0 ez1 e;rw[ez0] at hv1;rw[ez1] at hv2
 refine aBS e ?_;clear e;intro x y hx hy e
 refine YA e ?_;clear e;intro ne e
 refine kX e λe1 e2=>?_;clear e;subst e1 e2
 obtain⟨r1,h1⟩:=nI hx
 obtain⟨r2,h2⟩:=nI hy
 refine b7 hv1 λa1 ha1 z1=>?_;clear hv1;rw[z1] at il
 refine b7 hv2 λa2 ha2 z1=>?_;clear hv2;replace il:=z1▸il
 refine fP (n.R.get h1) λb1 o1 hb1 hm1 z1=>?_
 refine iJ z1 λws1 q1 hw1 z2=>?_;clear z1;subst z2
 refine fP (n.R.get h2) λb2 o2 hb2 hm2 z1=>?_
 refine iJ z1 λws2 q2 hw2 z2=>?_;clear z1;subst z2
 rw[ha1] at hb1
 rw[ha2] at hb2
 replace hb1:=oS hb1;replace hm1:=hb1.symm▸hm1
 replace hb2:=oS hb2;rw[<-hb2] at hm2
 match ws1,hw1,ws2,hw2 with
 |u1::t1,⟨⟨k1,hu1⟩,_⟩,u2::t2,⟨⟨k2,hu2⟩,_⟩=>
  rw[hu1] at hm1;rw[hu2] at hm2
  have hne:x≠y:=λe=>by rw[e,seq_iff.mpr rfl] at ne;exact d9 ne.symm
  refine M9 n.F n.NX il (ay _ hm1) rfl rfl (ay _ hm2) rfl rfl hne λD h' e F' N' lt=>?_
  have hs:RVs (adr aA) (tM x y (.obj i1) (.obj i2)) (vN x y (.ref a1) (.ref a2)):=by
   delta tM vN
   cases decide (y.cps.toList<x.cps.toList) with
   |true=>exact⟨⟨a2,ha2,rfl⟩,⟨a1,ha1,rfl⟩,trivial⟩
   |false=>exact⟨⟨a1,ha1,rfl⟩,⟨a2,ha2,rfl⟩,trivial⟩
  refine jN (n.push (so:=.list (tM x y (.obj i1) (.obj i2))) F' N' lt ⟨_,e,hs.ext ext_push,rfl⟩) λn2 x2 r2=>?_
  exact k _ _ h' s.toks x2 n2 r2
theorem EW (aH:prog=rw1.prog) {id:String} {args:List SV} {v:SV} {aT:List SO} (e:EV st id args=some (v,aT)) (hh:A.handled=none)
  (n:Now w G aY L loc st mm xs aA s.heap) (hv:RVs (adr aA) args us) {Q:Value->Shared->Prop}
  (k:∀u aB h' aU,Ext (adr aA) (adr aB)->Now w G aY L loc aT mm xs aB h'->RV (adr aB) v u->Q u {s with heap:=h',toks:=aU}):
  wpAny (model prog w) A (call (.builtin id) us) Q E s:=by
 subst aH
 unfold EV at e
 refine OF e ?_ ?_<;>clear e
 ·intro ez e;subst ez
  refine aBT e ?_;clear e;intro i j ez0 e;subst ez0
  refine fP (fL hv) λu u2 z1 z2 z3=>?_;subst z1
  refine b7 z2 λa ha z4=>?_;clear z2;subst z4
  refine b7 z3 λb hb z5=>?_;clear z3;subst z5
  refine aBU e ?_;clear e;intro m vs ws hs hs2 e
  refine kS (jZ n.N n.R hs ha) λus q hw hq il hl=>?_
  refine fP (cU n.N n.R hs2 hb) λus2 q2 hw2 hq2 il2=>?_
  refine jM e ?_;clear e;intro hc e
  refine kX e λe1 e2=>?_;clear e;subst e1 e2
  simp only[bG,Bool.not_eq_true'] at hc
  have h1:=bA hc.1.1
  have h2:=bA hc.1.2
  have l1:=hw.len
  have l2:=hw2.len
  have hmem:(b,listOf us2.toArray q2)∈xs++aA:=ay _ (bD hq2)
  have hd:¬(!us.toArray.isEmpty&&Builtin.List.listTooLong (us.toArray.size+us2.toArray.size))=true:=by
   refine extend_door ?_
   simp only[bT]
   rw[sizeLine_eq];omega
  have hz1:us.toArray.toList.length<=sizeLine:=by simp only[];rw[sizeLine_eq];omega
  have hz2:us.toArray.size+us2.toArray.size<=sizeLine+1:=by simp only[bT];rw[sizeLine_eq];omega
  refine XT (l:=us2) (λhu=>?_) λy r hu=>?_
  ·have hw0:ws=[]:=bv (by rw[<-l2,hu];rfl)
   refine jN (n.upd (o':=listOf us.toArray q) (so:=.listB (m+ws.length) (vs++ws)) hq ⟨⟨us,q,by rw[hw0,bQ];exact hw,rfl⟩,by rw[bI];omega⟩) λU N2 x2=>?_
   exact kxn_extend n.F n.NX hmem hu U hd hz1 hz2 λh' F' N'=>k .none _ h' s.toks x2 (N2 F' N') rfl
  ·refine jN (n.upd (o':=listOf (us++us2).toArray (q+1)) (so:=.listB (m+ws.length) (vs++ws)) hq ⟨⟨us++us2,q+1,hw.app hw2,rfl⟩,by rw[bI];omega⟩) λU N2 x2=>?_
   exact kl_extend (l:=us++us2) n.F n.NX hmem rfl (by rw[hu];exact Nat.succ_ne_zero _) U hd hz1 hz2 λh' F' N'=>k .none _ h' s.toks x2 (N2 F' N') rfl
 intro e
 refine OF e ?_ ?_<;>clear e
 ·intro ez e;subst ez
  refine nL2 e ?_;clear e;intro v1 v2 ez e;replace hv:=ez▸hv
  refine jM e ?_;clear e;intro hy e
  have hy:=GI hy;rw[hy] at hv;rw[hy] at hy
  refine fP (fL hv) λu u2 z1 hv1 hv2=>?_;subst z1
  have hv2':u2=.type "str":=hv2
  subst hv2'
  refine aBV e ?_ ?_<;>clear e
  ·intro _ ez0 e;subst ez0
   refine kX e λe1 e2=>?_;clear e;rw[<-e1] at k;rw[<-e2] at k
   obtain⟨t,rfl⟩:=hv1
   exact GJ (typeIs_str _ _ _) (k _ aA s.heap s.toks .rfl' n rfl)
  ·intro j ez0 e;subst ez0
   refine b7 hv1 λa ha z1=>?_;clear hv1;subst z1
   refine YF e ?_;clear e;intro vs hs e
   refine kX e λe1 e2=>?_;clear e;subst e1 e2
   refine b7 (lK n.N n.R hs ha) λws hw z1=>?_
   refine qM z1 λo ho hc z2=>?_;clear z1
   obtain⟨q,hd⟩:=z2
   refine call_isinstance (isinstance_false_tuple (T:="str") (by decide) (by first|rfl|kernel_rfl) (by rw[isSubtype_type];kernel_rfl)) ?_
   exact⟨⟨o,ho,hc⟩,k _ aA s.heap _ .rfl' n rfl⟩
 intro e
 refine OF e ?_ ?_<;>clear e
 ·intro ez e;subst ez
  refine aBW e ?_;clear e;intro m o m2 z ez0 e;subst ez0
  refine fP (fL hv) λu u2 z1 z2 z3=>?_;subst z1
  obtain⟨z4,hz⟩:=z2
  obtain⟨t,rfl⟩:=z4
  obtain⟨z6,hz2⟩:=z3
  obtain⟨t2,rfl⟩:=z6
  refine jM e ?_;clear e;intro hc e
  refine kX e λe1 e2=>?_;clear e;subst e1 e2
  simp only[bG] at hc
  have h1:=bA hc.1
  have:=wP hc.2
  subst this
  exact wD (by rw[sizeLine_eq];omega) λt' tk=>k _ aA s.heap tk .rfl' n ⟨⟨t',rfl⟩,bl (nV o) hz⟩
 intro e
 refine zI e ?_;clear e;intro ez e;subst ez
 refine YC e ?_;clear e;intro i ez0 e;subst ez0
 refine b7 (fK hv) λu z1 z2=>?_;subst z1
 refine b7 z2 λa ha z3=>?_;clear z2;subst z3
 refine aBX e ?_ ?_<;>clear e
 ·intro es hs e
  refine wY e ?_;clear e;intro r hr e
  refine kX e λe1 e2=>?_;clear e;subst e1 e2
  refine kS (qZ n.N n.R hs ha) λod kvs hk hq hd lo=>?_
  have hD:=kda_dict (s:=s) n.N (bD hq) hd
  obtain⟨ep,hat⟩:=hD.dictAt
  have h4:=sF hr
  rw[bF] at h4
  have hkl:=hk.len
  refine kdu_sorted (kdl_dict (knd:=PySem.strKind rw1.prog w) (kvs:=kvs) (ep:=ep) lo) hh n.F n.NX hat (by rw[sizeLine_eq];omega) λD h' tk vs F' N' lt hlen hvs=>?_
  have hS:StrsAre vs (es.map (·.1)):=tR hk (by rw[hlen]) hvs
  refine DF F' N' lt hS (by omega) λh2 vs' ss' e2 F2 N2 hS' hp hs'=>?_
  obtain⟨e1,_⟩:=vO hr hp hs'
  rw[<-e1] at hr;rw[<-e1] at k
  refine jN (n.push (so:=.list (ss'.map .str)) F2 N2 lt ⟨vs',e2,vQ hS',rfl⟩) λn2 x2 r2=>?_
  exact k _ _ h2 tk x2 n2 r2
 ·intro vs hs e
  refine fP (cU n.N n.R hs ha) λws q hw hq il=>?_
  refine aBY e ?_ ?_ ?_<;>clear e
  ·intro ez0 e;subst ez0
   refine kX e λe1 e2=>?_;clear e;subst e1 e2
   refine XT (l:=ws) (λhu=>?_) λy r hu=>by rw[hu] at hw;exact hw.elim
   ·rw[hu] at il
    refine mO n.F n.NX il (by simp) λh' c F' N'=>?_
    refine jN (n.push (so:=.list []) F' N' (λp hp=>Nat.lt_succ_of_lt (Heap.lt_size (n.NX p hp).1)) ⟨[],c,trivial,rfl⟩) λn2 x2 r2=>?_
    exact k _ _ h' s.toks x2 n2 r2
  ·intro v1 ez0 e;rw[ez0] at hs;rw[ez0] at hw
   refine kX e λe1 e2=>?_;clear e;subst e1 e2
   refine XT (l:=ws) (λhu=>by rw[hu] at hw;exact hw.elim) λy r hu=>?_
   ·rw[hu] at hw il
    refine XT (l:=r) (λhu=>?_) λy r hu=>by rw[hu] at hw;exact hw.2.elim
    ·rw[hu] at hw il
     refine mO n.F n.NX il (by simp) λh' c F' N'=>?_
     refine jN (n.push (so:=.list [v1]) F' N' (λp hp=>Nat.lt_succ_of_lt (Heap.lt_size (n.NX p hp).1)) ⟨[y],c,⟨hw.1.ext ext_push,trivial⟩,rfl⟩) λn2 x2 r2=>?_
     exact k _ _ h' s.toks x2 n2 r2
  ·intro v1 v2 ez0 e;rw[ez0] at hs;rw[ez0] at hw
   refine fP (fL hw) λu1 u2 ez hv1 hv2=>?_
   rw[ez] at il
   exact J9 e n hv1 hv2 il k
theorem AO {id:String} {args:List SV} {φ:SV×List SO->Prop} (h:(wC st id args).wp φ) (hh:A.handled=none)
  (n:Now w G aY L loc st mm xs aA s.heap) (hv:RVs (adr aA) args us) {Q:Value->Shared->Prop}
  (k:∀v aT u aB h' aU,φ (v,aT)->Ext (adr aA) (adr aB)->Now w G aY L loc aT mm xs aB h'->RV (adr aB) v u->Q u {s with heap:=h',toks:=aU}):
  wpAny (model prog w) A (call (.type id) us) Q E s:=by
 unfold wC at h
 refine aBZ h ?_ ?_<;>clear h
 ·intro i ez0 h;subst ez0
  refine b7 (fK hv) λu z1 z2=>?_;subst z1
  refine b7 z2 λa ha z3=>?_;clear z2;subst z3
  refine aBa h ?_ ?_<;>clear h
  ·intro vs hs h
   refine fP (cU n.N n.R hs ha) λws q hw hq il=>?_
   refine i8 h ?_;clear h;intro hsm h
   have hz:=eH hsm hw
   refine mS2 h ?_ ?_<;>clear h
   ·intro ez h;subst ez
    refine aBb h λns hns h=>?_
    obtain⟨i1,i3⟩:=AY hns hw
    cases ho:xD ns with
    |false=>exact(h.2 ho).elim
    |true=>
    replace h:=h.1 ho
    have i2:∀n∈ns,0<=n/\n<256:=λn hn=>of_decide_eq_true (bO.mp ho n hn)
    refine bytes_K n.F n.NX il i1 i2 hz hh λh' t tk F' N' _=>?_
    refine k _ _ _ aA h' tk h .rfl' (n.ext F' N' n.off n.R .rfl') ⟨⟨t,rfl⟩,?_⟩
    unfold gW
    simp
   intro h
   refine mS1 h λez h=>?_;subst ez
   refine call_tuple_list il (λh' hk=>?_) (by simpa using hz)
   have F':=n.F.keeps hk
   have N':=n.NX.grown hk
   refine jN (n.push (so:=.tup vs) (F'.push _) (News.push F' N' _ rfl) (λp hp=>Heap.lt_size (N' p hp).1) ⟨ws,0,hw.ext ext_push,rfl⟩) λn2 x2 r2=>?_
   exact k _ _ _ _ _ s.toks h x2 n2 r2
  ·intro m vs hs h
   refine kS (jZ n.N n.R hs ha) λws q hw hq il hl=>?_
   refine i8 h ?_;clear h;intro hb h
   replace hb:=bA hb
   have hwl:=hw.len
   refine mS1 h ?_;clear h;intro ez h;subst ez
   refine call_tuple_list il (λh' hk=>?_) (by simp only[bT];rw[sizeLine_eq];omega)
   have F':=n.F.keeps hk
   have N':=n.NX.grown hk
   refine jN (n.push (so:=.tup vs) (F'.push _) (News.push F' N' _ rfl) (λp hp=>Heap.lt_size (N' p hp).1) ⟨ws,0,hw.ext ext_push,rfl⟩) λn2 x2 r2=>?_
   exact k _ _ _ _ _ s.toks h x2 n2 r2
 ·intro m ez0 h;subst ez0
  refine b7 (fK hv) λu z1 z2=>?_;subst z1
  obtain⟨t,rfl⟩:=z2
  refine mS1 h ?_;clear h;intro ez h;subst ez
  obtain⟨h1,h2⟩:=h
  cases hc:decide (0<=m/\m<=100000) with
  |false=>exact(h2 hc).elim
  |true=>
   have hc':=of_decide_eq_true hc
   exact pO hc'.1 hc'.2 λt' tk=>k _ _ _ aA s.heap tk (h1 hc) .rfl' n ⟨⟨t',rfl⟩,by simp⟩
end
def ZI (tb:Tb) (f:SV):Bool:=match f with
 | .lit v=>match v with
  | .ref a=>(tb.fns.any λr=>Nat.beq r.f a)||(iQ tb.cls a).isSome
  | .builtin _=>true
  | .type _=>true
  |_=>false
 |_=>false
noncomputable def jL {α:Type} (n:Int):Nat->Nat->(Nat->Tr α)->Tr α
 |0,_,_=>.no
 |k+1,j,f=>.br (decide (n=(j:Int))) (f j) (jL n k (j+1) f)
theorem vD {α:Type} {n:Int} {f:Nat->Tr α} {φ:α->Prop}:∀{k j:Nat},(jL n k j f).wp φ->∃i:Nat,n=(i:Int)/\(f i).wp φ
 |0,_,h=>h.elim
 |k+1,j,h=>by
  cases hd:decide (n=(j:Int)) with
  |true=>exact⟨j,of_decide_eq_true hd,h.1 hd⟩
  |false=>exact vD (h.2 hd)
theorem vC {α:Type} {n:Int} {f:Nat->Tr α} {φ:α->Prop}:∀{k j:Nat},(j:Int)<=n->n<((j+k:Nat):Int)->(∀i:Nat,n=(i:Int)->j<=i->i<j+k->(f i).wp φ)->(jL n k j f).wp φ
 |0,j,h1,h2,_=>by omega
 |k+1,j,h1,h2,h=>by
  refine⟨λe=>h j (of_decide_eq_true e) (Nat.le_refl _) (by omega),λe=>?_⟩
  have:=of_decide_eq_false e
  exact vC (by omega) (by omega) λi a b c=>h i a (by omega) (by omega)
noncomputable def XE (args:List SV):Option Nat:=match args with
 |[_,.int (.ofNat m)]=>some m
 |_=>none
def xR (args:List SV) (y:SV×List SO):Tr (SV×List SO):=match XE args with
 |some m=>match Nat.ble m 10 with
  |true=>match kM y.1 with
   |some n=>jL n m 0 λj=>.ret (.int j,y.2)
   |none=>.no
  |false=>.ret y
 |none=>.ret y
theorem DG {args:List SV} {y:SV×List SO} {φ:SV×List SO->Prop} (h:(xR args y).wp φ):φ y:=by
 delta xR at h
 refine mA2 h ?_ λ_ h=>h
 intro m _ h
 refine mB2 h ?_ λ_ h=>h
 intro _ h
 refine mzJ h λn e h=>?_
 refine b7 (vD h) λi e3 h=>?_
 have e:=iK e
 obtain⟨v,st⟩:=y
 cases e
 rw[e3]
 exact h
def EK (tb:Tb) (ih:Ih) (dn:Nat) (st:List SO) (a fi:Nat) (args:List SV):Tr (SV×List SO):=match lX tb.fns fi (args.length+1) with
 |some r=>(sK ih dn (st++[.dict [],.inst a st.length]) r (.obj (st.length+1)::args)).bind λy=>match isNone y.1 with
  |true=>.ret (.obj (st.length+1),y.2)
  |false=>.no
 |none=>.no
def EM (tb:Tb) (ih:Ih) (dn:Nat) (st:List SO) (a:Nat) (args:List SV):Tr (SV×List SO):=match lX tb.fns a args.length with
 |some r=>match Nat.beq a 998 with
  |true=>(sK ih dn st r args).bind (xR args)
  |false=>sK ih dn st r args
 |none=>.no
def EO (st:List SO) (id:String) (args:List SV):Tr (SV×List SO):=match EI st id args with
 |some c=>.ret c
 |none=>match wB st id args with
  |some c=>.ret c
  |none=>xE (EV st id args)
def ES (st:List SO) (id:String) (args:List SV):Tr (SV×List SO):=match EQ st id args with
 |some c=>.ret c
 |none=>wC st id args
def yM (tb:Tb) (ih:Ih) (dn:Nat) (st:List SO) (f:SV) (args:List SV):Tr (SV×List SO):=match f with
 | .lit v=>match v with
  | .ref a=>match iQ tb.cls a with
   |some fi=>EK tb ih dn st a fi args
   |none=>EM tb ih dn st a args
  | .builtin id=>EO st id args
  | .type id=>ES st id args
  |_=>.no
 |_=>.no
def eZ (w:World) (tb:Tb):Prop:=∀r∈tb.fns,keepIn (K w.params) (.ref r.f)=true
section
variable {w:World} {prog:Program} {ih:Ih} {tb:Tb} (TB:TbOk w tb) (KO:eZ w tb) (I:IhOk w prog ih)
include TB in
theorem EZ {C f:Addr} (h:iQ tb.cls C=some f):makesIn (K w.params) C=true/\findIn (K w.params) (.ref C) "__init__"=some (some (.ref f))/\isFn (K w.params) (.ref f)=true/\keepIn (K w.params) (.ref C)=true:=by
 have:=TB.cls _ (iR h)
 unfold PZ at this
 simp only[bG,beq_iff_eq] at this
 obtain⟨z1,d⟩:=this
 obtain⟨z2,c⟩:=z1
 obtain⟨a,b⟩:=z2
 exact⟨a,b,c,d⟩
theorem HU {f:SV} {R:Prop} (h:ZI tb f=true) (k1:∀a,f=.lit (.ref a)->R) (k2:∀id,f=.lit (.type id)->R) (k3:∀id,f=.lit (.builtin id)->R):R:=by
 cases f with
 |lit v=>cases v with
  |ref a=>exact k1 a rfl
  |type a=>exact k2 a rfl
  |builtin a=>exact k3 a rfl
  |_=>exact d9 h
 |_=>exact d9 h
include TB KO in
theorem u9 {a:Addr} (h:ZI tb (.lit (.ref a))=true):keepIn (K w.params) (.ref a)=true:=by
 unfold ZI at h
 simp only[Bool.or_eq_true] at h
 rcases h with h|h
 ·refine b7 (List.any_eq_true.mp h) λr hr e=>?_
  rw[<-bg e]
  exact KO r hr
 ·cases e:iQ tb.cls a with
  |none=>rw[e] at h;first|exact b5 h|exact d9 h
  |some f=>exact(EZ TB e).2.2.2
include TB I in
theorem EL (aH:prog=rw1.prog)
  (C:Fx w fn A outer aZ base aY L p loose aC mg mb) {a fi:Nat} {args:List SV} {φ:SV×List SO->Prop} (hc:iQ tb.cls a=some fi) (h:(EK tb ih fn.dn st a fi args).wp φ) (n:Now w G aY L loc st mm xs aA s.heap) (hv:RVs (adr aA) args us) {Q:Value->Shared->Prop}
  (k:∀v aT u aB h' aU,φ (v,aT)->Ext (adr aA) (adr aB)->Now w G aY L loc aT mm xs aB h'->RV (adr aB) v u->Q u {s with heap:=h',toks:=aU}):
  wpAny (model prog w) A (call (.ref a) us) Q E s:=by
 have hd:=C.hd
 have hu:=C.hu
 delta EK at h
 refine mzR h ?_;clear h;intro r hr h
 refine jN (k7 hr) λhm e1 e2=>?_
 refine zO (EZ TB hc) λc1 c2 c3 c4=>?_
 refine call_cls n.F C.X n.NX c1 c2 c3 λx dx h' F' N' lt lt2=>?_
 refine jN (n.push (so:=.dict []) F' (λp hp=>N' p (.tail _ hp)) lt ⟨[],trivial,rfl⟩) λn1 x1 r1=>?_
 have N2:News aY L.a h' ((x,instObj a dx)::(xs++(aA++[(dx,dictOf [] 0)]))):=λp hp=>N' p (by
  rcases bX.mp hp with q|q
  ·subst q;exact .head _
  ·rw[<-bB] at q
   rcases bN.mp q with z|z
   ·exact .tail _ (.tail _ z)
   ·simp at z;subst z;exact .tail _ (.head _))
 have lt3:∀p∈xs++(aA++[(dx,dictOf [] 0)]),p.1<x:=λp hp=>by
  rw[<-bB] at hp
  rcases bN.mp hp with z|z
  ·exact Nat.lt_trans (lt p z) lt2
  ·simp at z;subst z;exact lt2
 refine jN (n1.push (so:=.inst a st.length) F' N2 lt3 ⟨dx,Ext.get ext_push (i4 n.R),rfl⟩) λn2 x2 r2=>?_
 rw[bB] at n2
 have hl:(st++[SO.dict []]).length=st.length+1:=by simp
 rw[hl] at r2
 subst e1
 have hA:(A.under (.builtin "type.__call__" ⟨.ref a::us,[]⟩)).frames=some (fn.fenv L::outer):=C.hA
 have hw:(Code.builtin "type.__call__" ⟨.ref a::us,[]⟩).weight<=2:=by
  show Code.weight _<=2
  exact bA rfl
 have hcu:(Code.builtin "type.__call__" ⟨.ref a::us,[]⟩).cUnits<=10:=bA rfl
 refine sM I aH (TB.fns r hm) C.B C.X C.T hA rfl C.hk C.hh (dn:=fn.dn) (by simp only[Around.under];omega) (by simp only[Around.under];omega) (Tr.wp_bind h) (s:={s with heap:=h'}) n2 (us:=.ref x::us) ⟨r2,hv.ext (x1.trans x2)⟩ (by rw[e2];rfl) ?_
 intro v aT u aB h2 aU af x3 n3 hu'
 refine i8 af λe af=>?_
 have e:v=.none:=j9 e
 rw[e] at hu'
 exact⟨hu',k _ aT (.ref x) aB h2 aU af ((x1.trans x2).trans x3) n3 (r2.ext x3)⟩
include TB I in
theorem EN (aH:prog=rw1.prog)
  (C:Fx w fn A outer aZ base aY L p loose aC mg mb) {a:Nat} {args:List SV} {φ:SV×List SO->Prop} (h:(EM tb ih fn.dn st a args).wp φ) (n:Now w G aY L loc st mm xs aA s.heap) (hv:RVs (adr aA) args us) {Q:Value->Shared->Prop}
  (k:∀v aT u aB h' aU,φ (v,aT)->Ext (adr aA) (adr aB)->Now w G aY L loc aT mm xs aB h'->RV (adr aB) v u->Q u {s with heap:=h',toks:=aU}):
  wpAny (model prog w) A (call (.ref a) us) Q E s:=by
 have hd:=C.hd
 have hu:=C.hu
 delta EM at h
 refine mzR h ?_;clear h;intro r hr h
 refine jN (k7 hr) λhm e1 e2=>?_
 subst e1
 refine mB2 h ?_ ?_<;>clear h
 ·intro _ h
  exact wpAny_call (sM I aH (TB.fns r hm) C.B C.X C.T C.hA rfl C.hk C.hh (dn:=fn.dn) (by omega) (by omega) (Tr.wp_bind h) n hv e2.symm λv aT u aB h' aU af x n' hu'=>k v aT u aB h' aU (DG af) x n' hu')
 ·intro _ h
  exact wpAny_call (sM I aH (TB.fns r hm) C.B C.X C.T C.hA rfl C.hk C.hh (dn:=fn.dn) (by omega) (by omega) h n hv e2.symm k)
theorem EP (aH:prog=rw1.prog)
  (C:Fx w fn A outer aZ base aY L p loose aC mg mb) {id:String} {args:List SV} {φ:SV×List SO->Prop} (h:(EO st id args).wp φ) (n:Now w G aY L loc st mm xs aA s.heap) (hv:RVs (adr aA) args us) {Q:Value->Shared->Prop}
  (k:∀v aT u aB h' aU,φ (v,aT)->Ext (adr aA) (adr aB)->Now w G aY L loc aT mm xs aB h'->RV (adr aB) v u->Q u {s with heap:=h',toks:=aU}):
  wpAny (model prog w) A (call (.builtin id) us) Q E s:=by
 delta EO at h
 refine mY2 h ?_ ?_<;>clear h
 ·intro c hc h
  exact EJ aH hc n hv λu aB h' aU x n' hu'=>k c.1 c.2 u aB h' aU h x n' hu'
 ·intro _ h
  refine mY2 h ?_ ?_<;>clear h
  ·intro c hc h
   exact AN hc n hv λu aB h' aU x n' hu'=>k c.1 c.2 u aB h' aU h x n' hu'
  ·intro _ h
   refine b7 (eP h) λc hc af=>?_
   exact EW aH hc C.hh n hv λu aB h' aU x n' hu'=>k c.1 c.2 u aB h' aU af x n' hu'
theorem ET (aH:prog=rw1.prog)
  (C:Fx w fn A outer aZ base aY L p loose aC mg mb) {id:String} {args:List SV} {φ:SV×List SO->Prop} (h:(ES st id args).wp φ) (n:Now w G aY L loc st mm xs aA s.heap) (hv:RVs (adr aA) args us) {Q:Value->Shared->Prop}
  (k:∀v aT u aB h' aU,φ (v,aT)->Ext (adr aA) (adr aB)->Now w G aY L loc aT mm xs aB h'->RV (adr aB) v u->Q u {s with heap:=h',toks:=aU}):
  wpAny (model prog w) A (call (.type id) us) Q E s:=by
 delta ES at h
 refine mY2 h ?_ ?_<;>clear h
 ·intro c hc h
  exact ER hc n hv λu aB h' aU x n' hu'=>k c.1 c.2 u aB h' aU h x n' hu'
 ·intro _ h
  exact AO h C.hh n hv k
include TB I in
theorem EU (aH:prog=rw1.prog)
  (C:Fx w fn A outer aZ base aY L p loose aC mg mb) {f:SV} {args:List SV} {φ:SV×List SO->Prop} (h:(yM tb ih fn.dn st f args).wp φ) (n:Now w G aY L loc st mm xs aA s.heap) (hf:RV (adr aA) f u) (hv:RVs (adr aA) args us) {Q:Value->Shared->Prop}
  (k:∀v aT u aB h' aU,φ (v,aT)->Ext (adr aA) (adr aB)->Now w G aY L loc aT mm xs aB h'->RV (adr aB) v u->Q u {s with heap:=h',toks:=aU}):
  wpAny (model prog w) A (call u us) Q E s:=by
 delta yM at h
 refine mzL h ?_;clear h;intro v e h
 rw[e] at hf
 have e0:v=u:=Eq.symm hf
 rw[<-e0]
 clear hf e e0
 cases v with
 |ref a=>
  refine mA2 (d:=iQ tb.cls a) h ?_ ?_<;>clear h
  ·intro fi hc h
   exact EL TB I aH C hc h n hv k
  ·intro _ h
   exact EN TB I aH C h n hv k
 |type id=>exact ET aH C h n hv k
 |builtin id=>exact EP aH C h n hv k
 |_=>exact h.elim
theorem iZ (pos:Pos) (l:List (Bool×Sem Value)):(backTo pos l).any (·.1)=l.any (·.1):=by
 unfold backTo
 induction l with
 |nil=>rfl
 |cons x r ih=>rw[bL,bn,bn,ih]
noncomputable def Y6 (f:SV) (first:List SV):Bool:=match f with
 | .lit v=>match v with
  | .type _=>first.isEmpty
  |_=>true
 |_=>true
def uB (tb:Tb) (ih:Ih) (fn:Fn) (st:List SO) (loc:Loc) (f:SV) (first:List SV) (args:List Expr):Tr (SV×List SO):=match ZI tb f&&Y6 f first with
 |true=>(oH ih fn st loc args).bind λy=>yM tb ih fn.dn y.2 f (first++y.1)
 |false=>.no
include TB KO I in
theorem uC (aH:prog=rw1.prog)
  (C:Fx w fn A outer aZ base aY L p loose aC mg mb) {f:SV} {first:List SV} {args:List Expr} {pos:Pos} {φ:SV×List SO->Prop} (h:(uB tb ih fn st loc f first args).wp φ) (n:Now w G aY L loc st mm xs aA s.heap) (hf:RV (adr aA) f u) (hv:RVs (adr aA) first us) {Q:Value->Shared->Prop}
  (k:∀v aT u aB h' aU,φ (v,aT)->Ext (adr aA) (adr aB)->Now w G aY L loc aT mm xs aB h'->RV (adr aB) v u->Q u {s with heap:=h',toks:=aU}):
  wpAny (model prog w) A (callWith pos u us (backTo pos (starEach args (fn.env L))) []) Q E s:=by
 delta uB at h
 refine i8 h ?_;clear h;intro ho h
 obtain⟨ho,hT⟩:=rJ ho
 have any:=fM (pos:=pos) (env:=fn.env L) (Tr.wp_bind h)
 have fin:∀vs aT us' aB h' aU,(yM tb ih fn.dn aT f (first++vs)).wp φ->Ext (adr aA) (adr aB)->Now w G aY L loc aT mm xs aB h'->RVs (adr aB) vs us'->wpAny (model prog w) A (call u (us++us')) Q E {s with heap:=h',toks:=aU}:=by
  intro vs aT us' aB h' aU af x n' hvs
  exact EU TB I aH C af n' (hf.ext x) ((hv.ext x).app hvs) λv st2 u2 aJ h2 aX hφ2 x2 n2 hu2=>k v st2 u2 aJ h2 aX hφ2 (x.trans x2) n2 hu2
 cases args with
 |nil=>
  have f0:=fin [] st [] aA s.heap s.toks h .rfl' n trivial
  clear fin any
  refine HU ho ?_ ?_ ?_
  ·intro a e
   rw[e] at hf ho
   have hf:u=.ref a:=hf
   rw[hf] at f0 ⊢
   exact callWith_K0 (C.X.keeps n.F.keep) (u9 TB KO ho) f0
  ·intro id e
   rw[e] at hf hT
   have hf:u=.type id:=hf
   rw[List.isEmpty_iff.mp hT] at hv
   rw[bQ,hf,lN hv] at f0
   rw[hf,lN hv]
   exact PyProof.Rows.callWith_type0 f0
  ·intro id e
   rw[e] at hf
   have hf:u=.builtin id:=hf
   rw[bQ,hf] at f0
   rw[hf]
   exact callWith_method0 f0
 |cons e0 r=>
  have ne:=(fB (Tr.wp_bind h)).1
  have tl:(backTo pos (starEach r (fn.env L))).any (·.1)=false:=by
   rw[cR ne,bn] at any
   exact(iZ _ _).trans any
  clear any
  refine HU ho ?_ ?_ ?_
  ·intro a e
   rw[e] at hf ho
   have hf:u=.ref a:=hf
   rw[hf] at fin ⊢
   exact callWith_K C.X (u9 TB KO ho) (R.sA I C (Tr.wp_bind h) n λvs aT us' aB h' aU af x n' hvs=>⟨C.X.keeps n'.F.keep,fin vs aT us' aB h' aU af x n' hvs⟩) (cR ne) tl
  ·intro id e
   rw[e] at hf hT
   have hf:u=.type id:=hf
   rw[List.isEmpty_iff.mp hT] at hv
   rw[hf,lN hv] at fin ⊢
   exact PyProof.Rows.callWith_type1 (R.sA I C (Tr.wp_bind h) n fin) (cR ne) tl
  ·intro id e
   rw[e] at hf
   have hf:u=.builtin id:=hf
   rw[hf] at fin ⊢
   exact callWith_method1 (R.sA I C (Tr.wp_bind h) n fin) (cR ne) tl
end
noncomputable def zU:Str:="append"
noncomputable def aAV:Str:="pop"
noncomputable def M0:Str:="extend"
noncomputable def TL:Str:="strip"
noncomputable def JX:Str:="reverse"
def wL (tb:Tb) (st:List SO) (o:SV) (n:Str):Option (SV×List SV):=match o with
 | .obj i=>match st[i]? with
  |some (.inst C d)=>match st[d]? with
   |some (.dict es)=>match lk es n with
    |none=>match iQ tb.meth C with
     |some l=>match lk l n with
      |some f=>some (.lit (.ref f),[.obj i])
      |none=>none
     |none=>none
    |some _=>none
   |_=>none
  |some (.listB _ _)=>match seq n zU with
   |true=>some (.lit (.builtin "list.append"),[.obj i])
   |false=>match seq n aAV with
    |true=>some (.lit (.builtin "list.pop"),[.obj i])
    |false=>match seq n M0 with
     |true=>some (.lit (.builtin "list.extend"),[.obj i])
     |false=>none
  |some (.list _)=>match seq n zU with
   |true=>some (.lit (.builtin "list.append"),[.obj i])
   |false=>match seq n aAV with
    |true=>some (.lit (.builtin "list.pop"),[.obj i])
    |false=>match seq n JX with
     |true=>some (.lit (.builtin "list.reverse"),[.obj i])
     |false=>none
  |_=>none
 | .lit v=>match v with
  | .ref C=>match iQ tb.smeth C with
   |some l=>match lk l n with
    |some f=>some (.lit (.ref f),[])
    |none=>none
   |none=>none
  |_=>none
 | .bytes m b=>match seq n TL with
  |true=>some (.lit (.builtin "bytes.strip"),[.bytes m b])
  |false=>none
 |_=>none
section
variable {w:World} {prog:Program} {ih:Ih} {tb:Tb} (TB:TbOk w tb) (KO:eZ w tb) (I:IhOk w prog ih)
include TB in
theorem lZ {o:SV} {name:Str} {f:SV} {first:List SV} (e:wL tb st o name=some (f,first)) (X:(K w.params).In aY)
  (n:Now w G aY L loc st mm xs aA s.heap) {ov:Value} (ho:RV (adr aA) o ov) {pl:Sem Bool} {Q:Value×List Value->Shared->Prop} (kk:∀u us aU,RV (adr aA) f u->RVs (adr aA) first us->Q (u,us) {s with toks:=aU}):
  wpAny (model prog w) A (getMethod ov name pl) Q E s:=by
 have k:∀u us,RV (adr aA) f u->RVs (adr aA) first us->Q (u,us) s:=λu us h1 h2=>kk u us s.toks h1 h2
 unfold wL at e
 refine aBc e ?_ ?_ ?_<;>clear e
 ·intro i ez0 e;subst ez0
  refine b7 ho λa ha z1=>?_;clear ho;subst z1
  refine aBd e ?_ ?_ ?_<;>clear e
  ·intro C d hs e
   refine YG e ?_;clear e;intro es hd e
   refine aBe e ?_;clear e;intro hl e
   refine YH e ?_;clear e;intro l hm e
   refine YI e ?_;clear e;intro f' hf e
   refine kX e λe1 e2=>?_;clear e;subst e1 e2
   refine SD (sW n.N n.R hs hd) λx dx en hx hdx hq hre IA=>?_
   have:a=x:=bS (ha.symm.trans hx)
   rw[<-this] at hx;rw[<-this] at IA
   have c:=TB.meth _ (iR hm) _ (lA hf)
   unfold QA at c
   simp only[bG,beq_iff_eq] at c
   obtain⟨z1,c4⟩:=c
   obtain⟨z2,c3⟩:=z1
   obtain⟨c1,c2⟩:=z2
   refine b7 (lY name hre) λr hr hmm=>?_
   rw[hl] at hmm
   rw[hmm] at hr
   exact method_inst n.F X IA c1 c2 c3 hr (k _ _ rfl ⟨⟨a,ha,rfl⟩,trivial⟩)
  ·intro m vs hs e
   refine kS (jZ n.N n.R hs ha) λws q hw hq il _=>?_
   have hmem:=bD hq
   refine Q6 e ?_ ?_<;>clear e
   ·intro g e
    refine kX e λe1 e2=>?_;clear e;subst e1 e2
    rw[dI g]
    exact kl_method n.N hmem PySem.F.slot_list_append PySem.F.type_list_append (k _ _ rfl ⟨⟨a,ha,rfl⟩,trivial⟩)
   ·intro _ e
    refine Q6 e ?_ ?_<;>clear e
    ·intro g e
     refine kX e λe1 e2=>?_;clear e;subst e1 e2
     rw[dI g]
     exact kl_method n.N hmem PySem.F.slot_list_pop PySem.F.type_list_pop (k _ _ rfl ⟨⟨a,ha,rfl⟩,trivial⟩)
    ·intro _ e;refine jM e ?_;clear e;intro g e
     refine kX e λe1 e2=>?_;clear e;rw[<-e1] at kk;rw[<-e1] at k;rw[<-e2] at kk;rw[<-e2] at k
     rw[dI g]
     exact kl_method n.N hmem PySem.F.slot_list_extend PySem.F.type_list_extend (k _ _ rfl ⟨⟨a,ha,rfl⟩,trivial⟩)
  ·intro vs hs e
   refine fP (cU n.N n.R hs ha) λws q hw hq il=>?_
   have hmem:=bD hq
   refine Q6 e ?_ ?_<;>clear e
   ·intro g e
    refine kX e λe1 e2=>?_;clear e;rw[<-e1] at kk;rw[<-e1] at k;rw[<-e2] at kk;rw[<-e2] at k
    rw[dI g]
    exact kl_method n.N hmem PySem.F.slot_list_append PySem.F.type_list_append (k _ _ rfl ⟨⟨a,ha,rfl⟩,trivial⟩)
   ·intro _ e
    refine Q6 e ?_ ?_<;>clear e
    ·intro g e
     refine kX e λe1 e2=>?_;clear e;subst e1 e2
     rw[dI g]
     exact kl_method n.N hmem PySem.F.slot_list_pop PySem.F.type_list_pop (k _ _ rfl ⟨⟨a,ha,rfl⟩,trivial⟩)
    ·intro _ e;refine jM e ?_;clear e;intro g e
     refine kX e λe1 e2=>?_;clear e;subst e1 e2
     rw[dI g]
     exact kl_method n.N hmem PySem.F.slot_list_reverse PySem.F.type_list_reverse (k _ _ rfl ⟨⟨a,ha,rfl⟩,trivial⟩)
 ·intro v ez0 e;subst ez0
  have e0:v=ov:=Eq.symm ho
  subst e0
  refine aBf e ?_;clear e;intro C ez0 e;subst ez0
  refine YH e ?_;clear e;intro l hm e
  refine YI e ?_;clear e;intro f' hf e
  refine kX e λe1 e2=>?_;clear e;rw[<-e1] at kk;rw[<-e1] at k;rw[<-e2] at kk;rw[<-e2] at k
  have c:=TB.smeth _ (iR hm) _ (lA hf)
  unfold QB at c
  simp only[bG,beq_iff_eq] at c
  obtain⟨c1,c2⟩:=c
  refine Q1 c2 ?_;clear c2;intro mc ht c2
  simp only[bG] at c2
  obtain⟨c3,c4⟩:=c2
  refine aBg c4 ?_;clear c4;intro a hcl c4
  have:a=.ref f':=by simpa using c4
  rw[this] at hcl;rw[this] at c4
  exact method_of_cls n.F X c1 (cls_val n.F X ht c3 hcl rfl (kk _ _ _ rfl trivial))
 ·intro _ _ ez0 e;rw[ez0] at ho
  refine jM e ?_;clear e;intro g e
  refine kX e λe1 e2=>?_;clear e;rw[<-e1] at kk;rw[<-e1] at k;rw[<-e2] at kk;rw[<-e2] at k
  obtain⟨z1,hz⟩:=ho
  obtain⟨t,rfl⟩:=z1
  rw[dI g]
  exact tC (k _ _ rfl ⟨⟨⟨t,rfl⟩,hz⟩,trivial⟩)
noncomputable def NY (e:Expr):Bool:=match e with
 | .Name ..| .Attribute ..| .Subscript ..=>true
 | .Call f (_::_) _ _=>match f with
  | .Name ..| .Attribute ..=>true
  |_=>false
 |_=>false
theorem iP {o:Expr} (h:NY o=true) (name:Str) (env:Env):attributeBase o name env (eval o env)=eval o env:=by
 cases o with
 |Name=>rfl
 |Attribute=>rfl
 |Subscript=>rfl
 |Call f args=>cases args with
  |nil=>exact d9 h
  |cons=>cases f with
   |Name=>rfl
   |Attribute=>rfl
   |_=>exact d9 h
 |_=>exact d9 h
noncomputable def fN (n:Nat) (apos pos:Pos):Bool:=Nat.beq apos.endLine pos.line&&Nat.blt n 30
theorem rW {o:Expr} {name:Str} {apos pos:Pos} {args:List Expr} {env:Env} (h1:(starEach args env).any (·.1)=false) (h2:fN args.length apos pos=true) (ho:attributeBase o name env (eval o env)=eval o env):
  eval (.Call (.Attribute o name apos) args [] pos) env=(do
   let ov<-eval o env
   standAt apos.atName
   let x<-holding [ov] (getMethod ov name (do return (<-importBound o env).getD true))
   match x with
    |(f,first)=>callWith pos f first (backTo pos (starEach args env)) []):=by
 have e:eval (.Call (.Attribute o name apos) args [] pos) env=(attributeBase o name env (eval o env) >>=λov=>standAt apos.atName >>=λ_=>methodCall o name apos pos env ov (args.length+0) (backTo pos (starEach args env)) []):=by with_unfolding_all rfl
 unfold fN at h2
 simp only[bG] at h2
 have h3:(apos.endLine==pos.line)=true:=by simpa using bg h2.1
 have h4:args.length<30:=bA h2.2
 have few:methodCallForm (args.length+0) (backTo pos (starEach args env)) []=true:=by
  unfold methodCallForm
  have:=iZ pos (starEach args env)
  rw[h1] at this
  simp only[List.all_nil,Bool.and_true,List.isEmpty_nil,if_true,Nat.add_zero,bG,decide_eq_true_eq]
  refine⟨?_,h4⟩
  rw[bO]
  intro x hx
  cases q:x.1 with
  |false=>rfl
  |true=>rw[List.any_eq_false] at this;exact absurd q (by simpa using this x hx)
 rw[e,ho]
 congr 1
 funext ov
 congr 1
 funext _
 unfold methodCall
 simp only[few,calleeOf,methodCallPos,h3,Bool.not_true,Bool.false_or,if_true]
 rfl
def OA (tb:Tb) (ih:Ih) (fn:Fn) (st:List SO) (loc:Loc) (f:Expr) (args:List Expr) (ks:List Keyword) (pos:Pos):Tr (SV×List SO):=match ks with
 |[]=>match LB f with
  |some q=>match NY q.1&&fN args.length q.2.2 pos with
   |true=>(ih.E fn st loc q.1).bind λx=>(xE (wL tb x.2 x.1 q.2.1)).bind λy=>uB tb ih fn x.2 loc y.1 y.2 args
   |false=>.no
  |none=>match(kU f).isSome with
   |true=>(ih.E fn st loc f).bind λx=>uB tb ih fn x.2 loc x.1 [] args
   |false=>.no
 |_=>.no
include TB KO I in
theorem aAO (aH:prog=rw1.prog) {fn:Fn} {st:List SO} {loc:Loc} {f:Expr} {args:List Expr} {ks:List Keyword} {pos:Pos}:SE w prog fn st loc (OA tb ih fn st loc f args ks pos) (eval (.Call f args ks pos)):=by
 intro A outer aZ base aY L p loose aC mg mb C φ h s mm G xs aA Q E n k
 cases ks with
 |cons=>exact h.elim
 |nil=>
  refine aBA h ?_ ?_<;>clear h
  ·intro q ha h
   rw[sJ ha]
   refine i8 h ?_;clear h;intro hp h
   have hp:=rJ hp
   have any:(starEach args (fn.env L)).any (·.1)=false:=by
    refine Tr.wp_elim (λx hx=>?_) (Tr.wp_bind h)
    refine Tr.wp_elim (λy hy=>?_) (Tr.wp_bind hx)
    unfold uB at hy
    cases q:ZI tb y.1&&Y6 y.1 y.2 with
    |false=>rw[q] at hy;exact hy.elim
    |true=>rw[q] at hy;exact fM (pos:=pos) (Tr.wp_bind hy)
   have fin:∀{pl:Sem Bool},wpAny (model prog w) A (eval q.1 (fn.env L)) (λov s₁=>wpAny (model prog w) A (getMethod ov q.2.1 pl) (λfx s₂=>wpAny (model prog w) A (callWith pos fx.1 fx.2 (backTo pos (starEach args (fn.env L))) []) Q E s₂) E s₁) E s:=by
    intro pl
    refine I.E fn st loc _ C (Tr.wp_bind h) n λv aT u aB h' aU af x n' hv=>?_
    refine b7 (eP (Tr.wp_bind af)) λc hc hφ3=>?_
    refine lZ TB (st:=aT) (s:={s with heap:=h',toks:=aU}) (f:=c.1) (first:=c.2) hc C.X n' hv λu us aX hu hus=>?_
    exact uC TB KO I aH C hφ3 (s:={s with heap:=h',toks:=aX}) n' hu hus λv st2 u2 aJ h2 aX hφ2 x2 n2 hu2=>k v st2 u2 aJ h2 aX hφ2 (x.trans x2) n2 hu2
   exact MethodCall_ fin (rW any hp.2 (iP hp.1 _ _))
  ·intro _ h
   refine i8 h ?_;clear h;intro hn h
   refine gS hn λq e=>?_
   rw[fX e] at h ⊢
   refine Call_ (I.E fn st loc _ C (Tr.wp_bind h) n λv aT u aB h' aU af x n' hv=>?_)
   exact uC TB KO I aH C af n' hv (us:=[]) trivial λv st2 u2 aJ h2 aX hφ2 x2 n2 hu2=>k v st2 u2 aJ h2 aX hφ2 (x.trans x2) n2 hu2
def TP (tb:Tb) (st:List SO) (o:SV) (n:Str) (v:SV):Option (List SO):=match o with
 | .obj i=>match st[i]? with
  |some (.inst C d)=>match st[d]? with
   |some (.dict es)=>match oZ tb C n&&Nat.ble (jG es n v).length 1000 with
    |true=>some (st.set d (.dict (jG es n v)))
    |false=>none
   |_=>none
  |_=>none
 |_=>none
include TB in
theorem M7 {o v:SV} {name:Str} {aT:List SO} (e:TP tb st o name v=some aT) (X:(K w.params).In aY)
  (n:Now w G aY L loc st mm xs aA s.heap) {ov:Value} (ho:RV (adr aA) o ov) (hv:RV (adr aA) v u) {Q:Unit->Shared->Prop} (k:∀aB h' aU,Ext (adr aA) (adr aB)->Now w G aY L loc aT mm xs aB h'->Q () {s with heap:=h',toks:=aU}):
  wpAny (model prog w) A (setAttr ov name u) Q E s:=by
 unfold TP at e
 refine ME e ?_;clear e;intro i ez0 e;subst ez0
 refine b7 ho λa ha z1=>?_;clear ho;subst z1
 refine aBh e ?_;clear e;intro C d hs e
 refine YG e ?_;clear e;intro es hd e
 refine jM e ?_;clear e;intro hb e
 replace e:=oS e;replace k:=e.symm▸k
 simp only[bG] at hb
 refine SD (sW n.N n.R hs hd) λx dx en hx hdx hq hre IA=>?_
 have:a=x:=bS (ha.symm.trans hx)
 rw[<-this] at hx;rw[<-this] at IA
 refine q06 (pZ TB hb.1) λc1 c2 _ c3 c4 c5=>?_
 refine b7 (lY name hre) λr hr _=>?_
 obtain⟨p1,p2⟩:=vE (tk:=s.toks+1) (x:=name) hv hre
 refine jN (n.upd (o':=dictOf (putL name (PyData.keyHash w.params name) (.str name (s.toks+1)) u en) (jG es name v).length) (so:=.dict (jG es name v)) hq ⟨_,p1,rfl⟩) λU N2 x2=>?_
 refine set_dict n.F X n.NX IA rfl c3 c4 c5 c2 (by rw[hr];rfl) rfl (by rw[p2];exact U) ?_ λh' F' N'=>k _ h' (s.toks+2) x2 (N2 F' N')
 rw[p1.len]
 exact bA hb.2
theorem DX {x:Str} {v:SV} (hv:RV ρ v u):∀{es:List (Str×SV)} {kvs:List (Str×Value)},RK ρ es kvs->(kvs.map (·.1)).Nodup->RK ρ (jG es x v) (PySem.stored kvs x u)
 |[],[],_,_=>⟨⟨rfl,hv⟩,trivial⟩
 |p::r,q::t,⟨⟨e,h⟩,b⟩,nd=>by
  rw[bL,List.nodup_cons] at nd
  unfold jG PySem.stored
  rw[bn]
  cases g:seq p.1 x with
  |true=>
   have hx:q.1=x:=by rw[<-e];exact dI g
   simp only[hx,decide_true,Bool.true_or,if_true,bL]
   have:t.map (λkv=>if kv.1=x then(kv.1,u) else kv)=t:=by
    conv=>rhs;rw[<-List.map_id t]
    apply List.map_congr_left
    intro z hz
    have:z.1≠x:=λq'=>nd.1 (bY.mpr ⟨z,hz,by rw[q',hx]⟩)
    simp[this]
   rw[this]
   exact⟨⟨by rw[e,hx],hv⟩,b⟩
  |false=>
   have hx:q.1≠x:=λq'=>by rw[e,seq_iff.mpr q'] at g;exact d9 g.symm
   have ih:=DX (x:=x) hv b nd.2
   unfold PySem.stored at ih
   simp only[hx,decide_false,Bool.false_or,bL,if_false]
   by_cases z:(t.any λkv=>decide (kv.1=x))=true
   ·rw[if_pos z] at ih ⊢
    exact⟨⟨e,h⟩,ih⟩
   ·rw[if_neg z] at ih ⊢
    exact⟨⟨e,h⟩,ih⟩
theorem tT {d:Addr} {o:Obj}:∀{l:List (Addr×Obj)} {i:Nat},(l.map (·.1)).Nodup->l[i]? =some (d,o)->UpdF d o l (λo'=>l.set i (d,o'))
 |[],_,_,h=>by simp at h
 |p::r,0,nd,h=>by
  simp at h
  subst h
  rw[bL,List.nodup_cons] at nd
  exact .head λq hq e=>nd.1 (bY.mpr ⟨q,hq,e⟩)
 |p::r,i+1,nd,h=>by
  simp at h
  rw[bL,List.nodup_cons] at nd
  exact .tail (λe=>nd.1 (bY.mpr ⟨_,bD h,e.symm⟩)) (tT nd.2 h)
theorem q0 {d:Addr} {o:Obj} {l:List (Addr×Obj)} {g:Obj->List (Addr×Obj)} (U:UpdF d o l g):∀{xs:List (Addr×Obj)},(∀p∈xs,p.1≠d)->UpdF d o (xs++l) (λo'=>xs++g o')
 |[],_=>U
 |x::r,h=>.tail (h x (.head _)) (q0 U λp hp=>h p (.tail _ hp))
def TQ (st:List SO) (o i v:SV):Option (List SO):=match o with
 | .obj j=>match st[j]? with
  |some (.ud es)=>match i with
   | .str x=>match Nat.ble es.length 1000 with
    |true=>some (st.set j (.ud (jG es x v)))
    |false=>none
   |_=>none
  |_=>none
 |_=>none
theorem M8 (aH:prog=rw1.prog) {o i v:SV} {aT:List SO} (e:TQ st o i v=some aT)
  (n:Now w G aY L loc st mm xs aA s.heap) {ov iv:Value} (ho:RV (adr aA) o ov) (hi:RV (adr aA) i iv) (hv:RV (adr aA) v u) {Q:Unit->Shared->Prop} (k:∀aB h' aU,Ext (adr aA) (adr aB)->Now w G aY L loc aT mm xs aB h'->Q () {s with heap:=h',toks:=aU}):
  wpAny (model prog w) A (setItem ov iv u) Q E s:=by
 subst aH
 unfold TQ at e
 refine ME e ?_;clear e;intro j ez0 e;rw[ez0] at ho
 refine b7 ho λa ha z1=>?_;clear ho;subst z1
 refine aBi e ?_;clear e;intro es hs e
 refine aBj e ?_;clear e;intro x ez0 e;subst ez0
 obtain⟨t,rfl⟩:=hi
 refine jM e ?_;clear e;intro hb e
 replace e:=oS e;subst e
 replace hb:=bA hb
 refine kS (qZ n.N n.R hs ha) λod kvs hk hq hd lo=>?_
 have nd:(kvs.map (·.1)).Nodup:=by obtain⟨_,_,_,_,_,_,nd⟩:=hd;exact nd
 have hmem:=bD hq
 refine kda_set (knd:=PySem.strKind rw1.prog w) (k:=x) n.F n.NX (q0 (tT n.R.nd hq) λp hp=>n.off p hp _ hmem) hd (strKind_is _ _ _ _) (by rw[hk.len];exact bl hb gX) λh' o' F' N' hd'=>?_
 refine jN (n.upd (o':=o') (so:=.ud (jG es x v)) hq ⟨_,DX hv hk nd,hd',lo⟩) λ_ N2 x2=>?_
 exact k _ h' (s.toks+1) x2 (N2 F' N')
end
def mB (fn:Fn) (x:Str):Bool:=match lk fn.scope.names x with
 |some .local=>true
 |_=>false
theorem jW {x:Str} (h:mB fn x=true) (L:FL):(fn.fenv L).kindOf x=some .local:=by
 unfold mB at h
 refine aBk h ?_;clear h;intro e h
 rw[dH] at e
 exact e
noncomputable def jB (e:Expr):Bool:=match e with
 | .ListComp ..| .SetComp ..| .DictComp ..=>false
 |_=>true
theorem kB {e:Expr} (h:jB e=true) (t:Option Expr) (l:Nat) (env:Env):swapsWith e t l env=pure false:=by
 cases e<;>first|rfl|(exact d9 h;done)
section
variable {w:World} {prog:Program} {ih:Ih} {tb:Tb} (TB:TbOk w tb) (KO:eZ w tb) (I:IhOk w prog ih)
theorem gF {fn:Fn} {x:Str} (ac:fn.cs=none) (hx:mB fn x=true) (hk:fn.scope.kind=.function)
  (hL:L.c=none) (n:Now w G aY L loc st mm xs aA s.heap) {v:SV} (hv:RV (adr aA) v u) {Q:Unit->Shared->Prop}
  (k:∀aV h' aU,Now w G aY L (jG loc x v) st aV xs aA h'->Q () {s with heap:=h',toks:=aU}):wpAny (model prog w) A (storeName (fn.env L) x u) Q E s:=by
 rw[Fn.env0 ac]
 refine storeX_L n.F n.NX (λh' F' N'=>k _ h' (s.toks+1) ⟨F',N',n.CX,n.off,n.R,λy v' hy=>?_⟩) hk (jW hx L)
 rw[p8] at hy
 by_cases e:y=x
 ·rw[if_pos e] at hy
  replace hy:=oS hy;subst hy
  exact jQ ⟨u,by rw[FL.lk0 hL,if_pos e],hv⟩
 ·rw[if_neg e] at hy
  exact(n.V y v' hy).upd (by rw[FL.lk0 hL,FL.lk0 hL,if_neg e])
def G8 (ih:Ih) (fn:Fn) (st:List SO) (loc:Loc) (e:Expr):Tr (Flo×List SO×Loc):=match jB e with
 |true=>(ih.E fn st loc e).bind λx=>.ret (.next,x.2,loc)
 |false=>.no
theorem l8 (ac:fn.cs=none) (hk:fn.scope.kind=.function):interactive (fn.env L)=false:=by
 rw[Fn.env0 ac]
 show(fn.scope.kind==.module&&_)=false
 rw[hk];rfl
include I in
theorem aAP {fn:Fn} {st:List SO} {loc:Loc} {e:Expr} {pos:Pos}:SS w prog fn st loc (G8 ih fn st loc e) (exec (.Expr e pos)):=by
 intro A outer aZ base aY L p loose aC mg mb C ac φ h s mm G xs aA Q E PE n k
 unfold G8 at h
 cases hc:jB e with
 |false=>rw[hc] at h;exact h.elim
 |true=>
  rw[hc] at h
  refine wpAny_Expr_any (I.E fn st loc e C (Tr.wp_bind h) n λv aT u aB h' aU af x n' hv=>?_) (l8 ac C.hk) (kB hc _ _ _)
  exact k .next aT loc .next mm aB h' aU af x n' rfl
def putN (fn:Fn) (st:List SO) (loc:Loc) (x:Str) (v:SV):Option (List SO×Loc):=match mB fn x with
 |true=>some (st,jG loc x v)
 |false=>match lk fn.scope.names x with
  |some .cell=>match lk loc x with
   |some (.cell i)=>match st[i]? with
    |some (.cell _)=>some (st.set i (.cell (some v)),loc)
    |_=>none
   |_=>none
  |_=>none
theorem gA {fn:Fn} {x:Str} (ac:fn.cs=none) (hk:fn.scope.kind=.function) {loc':Loc} {aT:List SO}
  (hL:L.c=none) (n:Now w G aY L loc st mm xs aA s.heap) {v:SV} (hv:RV (adr aA) v u) (e:putN fn st loc x v=some (aT,loc')) {Q:Unit->Shared->Prop}
  (k:∀aV aB h' aU,Ext (adr aA) (adr aB)->Now w G aY L loc' aT aV xs aB h'->Q () {s with heap:=h',toks:=aU}):wpAny (model prog w) A (storeName (fn.env L) x u) Q E s:=by
 unfold putN at e
 refine Q6 e ?_ ?_<;>clear e
 ·intro hx e
  refine kX e λe1 e2=>?_;clear e;subst e1 e2
  exact gF ac hx hk hL n hv λaV h' aU n'=>k aV aA h' aU .rfl' n'
 ·intro _ e;refine aBl e ?_;clear e;intro hc e
  refine YJ e ?_;clear e;intro i hl e
  refine aBm e ?_;clear e;intro v0 hs e
  refine kX e λe1 e2=>?_;clear e;rw[<-e1] at k;rw[<-e2] at k
  refine b7 (n.V x _ hl) λa h1 h2=>?_
  refine b7 (n.R.at_ i _ hs) λq hq hd=>?_
  have e2:q.1=a:=fH hq h2
  have e3:aA[i]? =some (a,q.2):=by rw[hq,<-e2]
  have hd':∃u0,q.2.data=.cell u0:=by
   cases v0 with
   |none=>exact⟨_,hd⟩
   |some v1=>obtain⟨u1,h3,_⟩:=hd;exact⟨_,h3⟩
  obtain⟨u0,hd'⟩:=hd'
  have hmem:=bD e3
  rw[Fn.env0 ac]
  have h1:L.cl.lookup x=some a:=by unfold FL.cls at h1;rw[hL] at h1;exact h1
  refine storeX_C n.F n.NX h1 (q0 (tT n.R.nd e3) λp hp=>n.off p hp _ hmem) hd' (λh' o' F' N' hd2=>?_) hk (by rw[dH] at hc;exact hc)
  refine jN (n.upd (o':=o') (so:=.cell (some v)) e3 ⟨u,hd2,hv⟩) λ_ N2 x2=>?_
  exact k mm _ h' s.toks x2 (N2 F' N')
def w8 (ih:Ih) (fn:Fn) (st:List SO) (loc:Loc) (x:Str) (v:Expr):Tr (Flo×List SO×Loc):=match jB v with
 |true=>(ih.E fn st loc v).bind λy=>(xE (putN fn y.2 loc x y.1)).bind λz=>.ret (.next,z.1,z.2)
 |false=>.no
include I in
theorem JW {fn:Fn} {st:List SO} {loc:Loc} {x:Str} {v:Expr} {px pos:Pos}:SS w prog fn st loc (w8 ih fn st loc x v) (exec (.Assign [.Name x px] v pos)):=by
 intro A outer aZ base aY L p loose aC mg mb C ac φ h s mm G xs aA Q E PE n k
 unfold w8 at h
 cases hc:jB v with
 |false=>rw[hc] at h;exact h.elim
 |true=>
  rw[hc] at h
  refine wpAny_Assign_Name (I.E fn st loc v C (Tr.wp_bind h) n λz aT u aB h' aU af xt n' hv=>?_) (kB hc _ _ _)
  refine b7 (eP (Tr.wp_bind af)) λc hc3 hφ3=>?_
  exact gA ac C.hk (C.c0 ac) n' hv hc3 λaV aJ h2 aX x2 n2=>k .next c.1 c.2 .next aV aJ h2 aX hφ3 (xt.trans x2) n2 rfl
def w4 (tb:Tb) (ih:Ih) (fn:Fn) (st:List SO) (loc:Loc) (o:Expr) (x:Str) (v:Expr):Tr (Flo×List SO×Loc):=match jB v with
 |true=>(ih.E fn st loc v).bind λy=>(ih.E fn y.2 loc o).bind λz=>(xE (TP tb z.2 z.1 x y.1)).bind λs'=>.ret (.next,s',loc)
 |false=>.no
include TB I in
theorem JU {fn:Fn} {st:List SO} {loc:Loc} {o v:Expr} {x:Str} {px pos:Pos}:SS w prog fn st loc (w4 tb ih fn st loc o x v) (exec (.Assign [.Attribute o x px] v pos)):=by
 intro A outer aZ base aY L p loose aC mg mb C ac φ h s mm G xs aA Q E PE n k
 unfold w4 at h
 cases hc:jB v with
 |false=>rw[hc] at h;exact h.elim
 |true=>
  rw[hc] at h
  refine plainObj_wpAny_Assign_Attribute (I.E fn st loc v C (Tr.wp_bind h) n λz aT u aB h' aU af x n' hv=>?_) (kB hc _ _ _)
  refine I.E fn aT loc o C (Tr.wp_bind af) n' λz2 st2 u2 aJ h2 aX hφ2 x2 n2 hv2=>?_
  refine b7 (eP (Tr.wp_bind hφ2)) λc hc3 hφ3=>?_
  exact M7 TB hc3 C.X n2 hv2 (hv.ext x2) λaK h3 tk3 x3 n3=>k .next c loc .next mm aK h3 tk3 hφ3 ((x.trans x2).trans x3) n3 rfl
def w5 (ih:Ih) (fn:Fn) (st:List SO) (loc:Loc) (o i v:Expr):Tr (Flo×List SO×Loc):=match jB v with
 |true=>(ih.E fn st loc v).bind λy=>(ih.E fn y.2 loc o).bind λz=>(ih.E fn z.2 loc i).bind λq=>(xE (TQ q.2 z.1 q.1 y.1)).bind λs'=>.ret (.next,s',loc)
 |false=>.no
include I in
theorem JV (aH:prog=rw1.prog) {fn:Fn} {st:List SO} {loc:Loc} {o i v:Expr} {px pos:Pos}:SS w prog fn st loc (w5 ih fn st loc o i v) (exec (.Assign [.Subscript o i px] v pos)):=by
 intro A outer aZ base aY L p loose aC mg mb C ac φ h s mm G xs aA Q E PE n k
 unfold w5 at h
 cases hc:jB v with
 |false=>rw[hc] at h;exact h.elim
 |true=>
  rw[hc] at h
  refine wpAny_Assign_Subscript (I.E fn st loc v C (Tr.wp_bind h) n λz aT u aB h' aU af x n' hv=>?_) (kB hc _ _ _)
  refine I.E fn aT loc o C (Tr.wp_bind af) n' λz2 st2 u2 aJ h2 aX hφ2 x2 n2 hv2=>?_
  refine I.E fn st2 loc i C (Tr.wp_bind hφ2) n2 λz3 st3 u3 aK h3 tk3 hφ3 x3 n3 hv3=>?_
  refine b7 (eP (Tr.wp_bind hφ3)) λc hc3 hφ4=>?_
  exact M8 aH hc3 n3 (hv2.ext x3) hv3 (hv.ext (x2.trans x3)) λaL h4 tk4 x4 n4=>k .next c loc .next mm aL h4 tk4 hφ4 (((x.trans x2).trans x3).trans x4) n4 rfl
def HF (ih:Ih) (fn:Fn) (st:List SO) (loc:Loc) (a b:Str) (v:Expr):Tr (Flo×List SO×Loc):=match v with
 | .Call ..=>match mB fn a&&mB fn b with
  |true=>(ih.E fn st loc v).bind λy=>match y.1 with
   | .obj i=>match y.2[i]? with
    |some (.tup [c,d])=>.ret (.next,y.2,jG (jG loc a c) b d)
    |_=>.no
   |_=>.no
  |false=>.no
 |_=>.no
include I in
theorem aAU {fn:Fn} {st:List SO} {loc:Loc} {a b:Str} {v:Expr} {pa pb tp pos:Pos} {j:Nat}:SS w prog fn st loc (HF ih fn st loc a b v) (exec (.Assign [.Tuple [.Name a pa,.Name b pb] j tp] v pos)):=by
 intro A outer aZ base aY L p loose aC mg mb C ac φ h s mm G xs aA Q E PE n k
 cases v with
 |Call f args ks cp=>
  unfold HF at h
  simp only at h
  cases hc:mB fn a&&mB fn b with
  |false=>rw[hc] at h;exact h.elim
  |true=>
   rw[hc] at h
   simp only[bG] at hc
   refine Assign_Tuple (I.E fn st loc _ C (Tr.wp_bind h) n λz aT u aB h' aU af x n' hv=>?_) rfl rfl
   simp only at af
   refine qC af ?_;clear af;intro i ez0 af;rw[ez0] at hv
   refine b7 hv λaa ha z1=>?_;clear hv;subst z1
   refine YK af ?_;clear af;intro c d hs af
   refine b7 (lK n'.N n'.R hs ha) λws hw it=>?_
   refine fP (fL hw) λc' d' z1 hc' hd'=>?_;rw[z1] at hw;rw[z1] at it
   refine unpackN_ n'.F n'.NX it C.hh rfl rfl λh2 F2 N2=>?_
   have n2:Now w G aY L loc aT mm xs aB h2:=⟨F2,N2,n'.CX,n'.off,n'.R,n'.V⟩
   refine assignInOrder_cons (assign_Name (gF ac hc.1 C.hk (C.c0 ac) n2 hc' λmm3 h3 tk3 n3=>?_))
   refine assignInOrder_cons (assign_Name (gF ac hc.2 C.hk (C.c0 ac) n3 hd' λmm4 h4 tk4 n4=>?_))
   exact assignInOrder_nil (k .next aT _ .next mm4 aB h4 tk4 af x n4 rfl)
 |_=>exact h.elim
def YY (ih:Ih) (sy:Bool) (fn:Fn) (st:List SO) (loc:Loc) (t:Expr) (b o:List Stmt):Tr (Flo×List SO×Loc):=
 (ih.T fn st loc t).bind λx=>rD sy x.1 (ih.S fn x.2 loc b) (ih.S fn x.2 loc o)
include I in
theorem aCT {sy:Bool} {fn:Fn} {st:List SO} {loc:Loc} {t:Expr} {b o:List Stmt} {pos:Pos}:SS w prog fn st loc (YY ih sy fn st loc t b o) (exec (.If t b o pos)):=by
 intro A outer aZ base aY L p loose aC mg mb C ac φ h s mm G xs aA Q E PE n k
 refine wpAny_If (I.T fn st loc t C (Tr.wp_bind h) n λc aT aB h' aU af x n'=>?_)
 have hp:=f9 af
 cases c with
 |true=>
  simp only[if_true] at hp ⊢
  exact I.S fn aT loc b C ac hp PE n' λf st2 loc2 fl aQ aJ h2 aX hφ2 x2 n2 hf=>k f st2 loc2 fl aQ aJ h2 aX hφ2 (x.trans x2) n2 hf
 |false=>
  simp only[bW,if_false] at hp ⊢
  exact I.S fn aT loc o C ac hp PE n' λf st2 loc2 fl aQ aJ h2 aX hφ2 x2 n2 hf=>k f st2 loc2 fl aQ aJ h2 aX hφ2 (x.trans x2) n2 hf
def Y3 (ih:Ih) (fn:Fn) (st:List SO) (loc:Loc):Option Expr->Tr (Flo×List SO×Loc)
 |some e=>(ih.E fn st loc e).bind λx=>.ret (.ret x.1,x.2,loc)
 |none=>.ret (.ret .none,st,loc)
include I in
theorem aCX {fn:Fn} {st:List SO} {loc:Loc} {e:Option Expr} {pos:Pos}:SS w prog fn st loc (Y3 ih fn st loc e) (exec (.Return e pos)):=by
 intro A outer aZ base aY L p loose aC mg mb C ac φ h s mm G xs aA Q E PE n k
 cases e with
 |none=>exact wpAny_Return_none (k (.ret .none) st loc (.ret .none) mm aA s.heap s.toks h .rfl' n ⟨_,rfl,rfl⟩)
 |some e=>exact wpAny_Return_some (I.E fn st loc e C (Tr.wp_bind h) n λv aT u aB h' aU af x n' hv=>k (.ret v) aT loc (.ret u) mm aB h' aU af x n' ⟨u,rfl,hv⟩)
noncomputable def qE (ih:Ih) (fn:Fn) (t:Expr) (b o:List Stmt):Nat->List SO->Loc->Tr (Flo×List SO×Loc)
 |0,_,_=>.no
 |k+1,st,loc=>(ih.T fn st loc t).bind λx=>rD false x.1
   ((ih.S fn x.2 loc b).bind λy=>match y.1 with
    | .next=>qE ih fn t b o k y.2.1 y.2.2
    | .cont=>qE ih fn t b o k y.2.1 y.2.2
    | .brk=>.ret (.next,y.2)
    | .ret v=>.ret (.ret v,y.2))
   (ih.S fn x.2 loc o)
include I in
theorem TN {t:Expr} {b o:List Stmt}
  (C:Fx w fn A outer aZ base aY L p loose aC mg mb) (ac:fn.cs=none) {φ:Flo×List SO×Loc->Prop} {s₀:Shared} (PE:PassesOwn (model prog w) A (fn.env L) E) (ρ₀:List Addr)
  (k:∀f aT loc' fl aV aB h' aU,φ (f,aT,loc')->Ext ρ₀ (adr aB)->Now w G aY L loc' aT aV xs aB h'->K6 (adr aB) f fl->Q fl {s₀ with heap:=h',toks:=aU}):
  ∀(m:Nat) {st:List SO} {loc:Loc} {h:Heap} {tk:Nat} {mm:Str->Option Value} {aA:List (Addr×Obj)},(qE ih fn t b o m st loc).wp φ->Ext ρ₀ (adr aA)->Now w G aY L loc st mm xs aA h->
   WhlRest prog w A E (fn.env L) t b o Q m {s₀ with heap:=h,toks:=tk}
 |0,_,_,_,_,_,_,h,_,_=>h.elim
 |m+1,st,loc,hh,tk,mm,aA,h,x0,n=>by
  refine whl_turn PE (I.T fn st loc t C (Tr.wp_bind h) n λc aT aB h' aU af x n'=>?_)
  have hp:=f9 af
  cases c with
  |true=>
   simp only[if_true] at hp
   refine WhlIf.yes rfl ?_
   refine I.S fn aT loc b C ac (Tr.wp_bind hp) PE n' λf st2 loc2 fl aQ aJ h2 aX hφ2 x2 n2 hf=>?_
   cases f with
   |next=>cases hf;exact TN C ac PE ρ₀ k m hφ2 (x0.trans (x.trans x2)) n2
   |cont=>cases hf;exact TN C ac PE ρ₀ k m hφ2 (x0.trans (x.trans x2)) n2
   |brk=>cases hf;exact k .next st2 loc2 .next aQ aJ h2 aX hφ2 (x0.trans (x.trans x2)) n2 rfl
   |ret v=>
    refine b7 hf λu z1 hu=>?_;clear hf;subst z1
    exact k (.ret v) st2 loc2 (.ret u) aQ aJ h2 aX hφ2 (x0.trans (x.trans x2)) n2 ⟨u,rfl,hu⟩
  |false=>
   simp only[bW,if_false] at hp
   refine WhlIf.no rfl ?_
   exact I.S fn aT loc o C ac hp PE n' λf st2 loc2 fl aQ aJ h2 aX hφ2 x2 n2 hf=>k f st2 loc2 fl aQ aJ h2 aX hφ2 (x0.trans (x.trans x2)) n2 hf
include I in
theorem TM {fn:Fn} {st:List SO} {loc:Loc} {t:Expr} {b o:List Stmt} {pos:Pos} (m:Nat):SS w prog fn st loc (qE ih fn t b o m st loc) (exec (.While t b o pos)):=by
 intro A outer aZ base aY L p loose aC mg mb C ac φ h s mm G xs aA Q E PE n k
 exact whl_start m (TN I C ac PE (adr aA) k m h .rfl' n)
end
noncomputable def ghost (G:Addr->Obj) (ax:Addr) (lo:Obj):Addr->Obj:=λa=>if a=ax then lo else G a
theorem pJ {ax a:Addr} {lo:Obj} (h:a≠ax) {so:SO} {o:Obj}:RO w (ghost G ax lo) ρ a so o<->RO w G ρ a so o:=by
 have e:ghost G ax lo a=G a:=by unfold ghost;rw[if_neg h]
 cases so<;>first|exact Iff.rfl|(show o=ghost G ax lo a<->o=G a;rw[e])|(show(o=ghost G ax lo a/\_)<->(o=G a/\_);rw[e])
theorem qI {l:List (Addr×Obj)} (nd:(l.map (·.1)).Nodup) {i j:Nat} {p q:Addr×Obj} (hi:l[i]? =some p) (hj:l[j]? =some q) (h:p.1=q.1):i=j:=by
 have hi':(l.map (·.1))[i]? =some p.1:=by simp[hi]
 have hj':(l.map (·.1))[j]? =some q.1:=by simp[hj]
 have li:i<(l.map (·.1)).length:=by
  rcases be i (l.map (·.1)).length with z|z
  ·exact z
  ·rw[bP z] at hi';exact b5 hi'
 exact(List.getElem?_inj li nd).mp (by rw[hi',hj',h])
theorem dL (R:Rep w G st aA) {j:Nat} {ax:Addr} {lo:Obj} (hj:aA[j]? =some (ax,lo)):Rep w (ghost G ax lo) (st.set j .fz) aA:=by
 refine⟨by simp[R.len],R.nd,λi so h=>?_⟩
 rw[bc] at h
 by_cases e:j=i
 ·subst e
  have il:j<st.length:=by
   rw[<-R.len]
   rcases be j aA.length with q|q
   ·exact q
   ·rw[bP q] at hj;exact b5 hj
  simp[il] at h
  subst h
  exact⟨_,hj,by show lo=ghost G ax lo ax;unfold ghost;rw[if_pos rfl]⟩
 ·simp[e] at h
  refine b7 (R.at_ i so h) λp hp hr=>?_
  refine⟨p,hp,(pJ λq=>e ?_).mpr hr⟩
  exact(qI R.nd hj hp q.symm)
theorem jP {j:Nat} {ax:Addr} {lo:Obj} (R:Rep w (ghost G ax lo) st aA) {so:SO} (ha:(adr aA)[j]? =some ax) (hf:st[j]? =some .fz) (ho:RO w G (adr aA) ax so lo):
  Rep w G (st.set j so) aA/\aA[j]? =some (ax,lo):=by
 refine b7 (R.at_ j _ hf) λp hp hr=>?_
 have e2:p.1=ax:=fH hp ha
 have e3:p.2=lo:=by
  have:p.2=ghost G ax lo p.1:=hr
  rw[this,e2]
  unfold ghost
  rw[if_pos rfl]
 have e4:aA[j]? =some (ax,lo):=by rw[hp,<-e2,<-e3]
 refine⟨⟨by simp[R.len],R.nd,λi so' h=>?_⟩,e4⟩
 rw[bc] at h
 by_cases e:j=i
 ·subst e
  have il:j<st.length:=rV hf
  simp[il] at h
  subst h
  exact⟨_,e4,ho⟩
 ·simp[e] at h
  refine b7 (R.at_ i so' h) λp' hp' hr'=>?_
  refine⟨p',hp',(pJ λq=>e ?_).mp hr'⟩
  exact(qI R.nd e4 hp' q.symm)
noncomputable def gJ (st:List SO) (j:Nat):Bool:=match st[j]? with
 |some .fz=>true
 |_=>false
theorem i6 {j:Nat} (h:gJ st j=true):st[j]? =some .fz:=by
 unfold gJ at h
 refine aBn h ?_;clear h;intro _ h
 assumption
section
variable {w:World} {prog:Program} {ih:Ih} {tb:Tb} (TB:TbOk w tb) (KO:eZ w tb) (I:IhOk w prog ih)
end
inductive SI where
 |val (v:SV)|pair (n:Int) (v:SV)|key (s:Str)|num (n:Int)
def SIR (ρ:List Addr):SI->Itm->Prop
 | .val v,a=>∃u,a=.val u/\RV ρ v u
 | .pair n v,a=>∃u,a=.pair (λt=>.int n t) u/\RV ρ v u
 | .key s,a=>a=.tok (λt=>.str s t)
 | .num n,a=>a=.tok (λt=>.int n t)
abbrev SIRs (ρ:List Addr):List SI->List Itm->Prop:=All2 (SIR ρ)
theorem SIR.ext {ρ':List Addr} (e:Ext ρ ρ') {x:SI} {a:Itm} (h:SIR ρ x a):SIR ρ' x a:=by
 cases x with
 |val=>exact b7 h λu h r=>⟨u,h,r.ext e⟩
 |pair=>exact b7 h λu h r=>⟨u,h,r.ext e⟩
 |_=>exact h
theorem SIRs.ext {ρ':List Addr} (e:Ext ρ ρ') {x:List SI} {a:List Itm} (h:SIRs ρ x a):SIRs ρ' x a:=All2.mono (λ_ _ a=>a.ext e) h
noncomputable def qK (fn:Fn):List Expr->List SV->List SO->Loc->Option (List SO×Loc)
 |[],[],st,loc=>some (st,loc)
 |e::r,v::t,st,loc=>match e with
  | .Name a _=>match putN fn st loc a v with
   |some q=>qK fn r t q.1 q.2
   |none=>none
  |_=>none
 |_,_,_,_=>none
def mQ (fn:Fn) (st:List SO) (loc:Loc) (t:Expr) (x:SI):Option (List SO×Loc):=match t with
 | .Name a _=>match x with
  | .val v=>putN fn st loc a v
  | .key s=>putN fn st loc a (.str s)
  | .num n=>putN fn st loc a (.int n)
  | .pair _ _=>none
 | .Tuple es _ _=>match x with
  | .pair n v=>qK fn es [.int n,v] st loc
  | .val v=>match v with
   | .obj i=>match st[i]? with
    |some (.tup vs)=>qK fn es vs st loc
    |_=>none
   |_=>none
  | .key _=>none
  | .num _=>none
 |_=>none
theorem rH {ws:List (Addr×String)}:∀{k:List (Addr×Obj)->Prop},(∀its,its.map (·.1)=ws.map (·.1)->k its)->AllObj ws k:=by
 induction ws with
 |nil=>intro k h;exact AllObj.nil (h [] rfl)
 |cons w r ih=>intro k h;exact AllObj.cons λo _=>ih λits e=>h _ (by simp[e])
section
variable {w:World} {prog:Program} {ih:Ih} {tb:Tb} (TB:TbOk w tb) (KO:eZ w tb) (I:IhOk w prog ih)
theorem m6 (hk:fn.scope.kind=.function) (ac:fn.cs=none) (hL:L.c=none):∀{es:List Expr} {vs:List SV} {st:List SO} {loc:Loc} {q:List SO×Loc},qK fn es vs st loc=some q->
  ∀{s:Shared} {mm:Str->Option Value} {aA:List (Addr×Obj)} {us:List Value},Now w G aY L loc st mm xs aA s.heap->RVs (adr aA) vs us->∀{Q:Unit->Shared->Prop},
  (∀aV aB h' aU,Ext (adr aA) (adr aB)->Now w G aY L q.2 q.1 aV xs aB h'->Q () {s with heap:=h',toks:=aU})->
  wpAny (model prog w) A (assignInOrder ((assignEach es (fn.env L)).map (·.2)) us) Q E s
 |[],[],st,loc,q,e,s,mm,aA,us,n,hv,Q,k=>by
  replace e:=oS e;subst e
  exact assignInOrder_nil (k mm aA s.heap s.toks .rfl' n)
 |[],_::_,st,loc,q,e,s,mm,aA,us,n,hv,Q,k=>by exact b5 e
 |_::_,[],st,loc,q,e,s,mm,aA,us,n,hv,Q,k=>by exact b5 e
 |x::r,v::t,st,loc,q,e,s,mm,aA,us,n,hv,Q,k=>by
  cases us with
  |nil=>exact hv.elim
  |cons u us=>
   refine YL e ?_;clear e;intro _ _ ez0 e;subst ez0
   refine Q2 e ?_;clear e;intro q1 h1 e
   refine assignInOrder_cons (assign_Name (gA ac hk hL n hv.1 h1 λaw aI h' aU x1 n1=>?_))
   exact m6 hk ac hL e n1 (hv.2.ext x1) λaQ aJ h2 aX x2 n2=>k aQ aJ h2 aX (x1.trans x2) n2
theorem lE {L:FL}:∀{es:List Expr} {vs:List SV} {st:List SO} {loc:Loc} {q:List SO×Loc},qK fn es vs st loc=some q->(assignEach es (fn.env L)).length=vs.length/\(assignEach es (fn.env L)).findIdx? (λx=>x.1)=none
 |[],[],_,_,_,_=>⟨rfl,rfl⟩
 |[],_::_,_,_,_,e=>by exact b5 e
 |_::_,[],_,_,_,e=>by exact b5 e
 |x::r,v::t,st,loc,q,e=>by
  refine YL e ?_;clear e;intro a p ez0 e;subst ez0
  refine Q2 e ?_;clear e;intro _ _ e
  obtain⟨h1,h2⟩:=lE (L:=L) e
  have e0:assignEach (.Name a p::r) (fn.env L)=(false,assign (.Name a p) (fn.env L))::assignEach r (fn.env L):=rfl
  rw[e0]
  refine⟨by simp[h1],?_⟩
  rw[List.findIdx?_cons,h2]
  rfl
theorem lJ (hk:fn.scope.kind=.function) (ac:fn.cs=none) (hh:A.handled=none) (hL:L.c=none) {t:Expr} {x:SI} {a:Itm} {q:List SO×Loc} (e:mQ fn st loc t x=some q) (n:Now w G aY L loc st mm xs aA s.heap) (hx:SIR (adr aA) x a) (hi:a.Is v s.heap) {Q:Unit->Shared->Prop}
  (k:∀aV aB h' aU,Ext (adr aA) (adr aB)->Now w G aY L q.2 q.1 aV xs aB h'->Q () {s with heap:=h',toks:=aU}):
  wpAny (model prog w) A (assign t (fn.env L) v) Q E s:=by
 unfold mQ at e
 refine aBo e ?_ ?_<;>clear e
 ·intro _ _ ez0 e;subst ez0
  cases x with
  |val=>
    refine b7 hx λu z1 hr=>?_;clear hx;subst z1
    have:v=u:=hi
    rw[<-this] at hr;rw[<-this] at hi
    exact assign_Name (gA ac hk hL n hr e k)
  |key=>
    have hx':a=_:=hx
    subst hx'
    obtain⟨tk,rfl⟩:=hi
    exact assign_Name (gA (v:=.str _) ac hk hL n ⟨tk,rfl⟩ e k)
  |num=>
    have hx':a=_:=hx
    subst hx'
    obtain⟨tk,rfl⟩:=hi
    exact assign_Name (gA (v:=.int _) ac hk hL n ⟨tk,rfl⟩ e k)
  |_=>exact b5 e
 ·intro _ _ _ ez0 e;subst ez0
  cases x with
  |pair=>
    refine b7 hx λu z1 hr=>?_;clear hx;rw[z1] at hi
    refine iJ hi λT tk z1 it=>?_;clear hi;subst z1
    obtain⟨l1,l2⟩:=lE (L:=L) e
    refine unpackN_ n.F n.NX it hh (by rw[l1];rfl) l2 λh2 F2 N2=>?_
    exact m6 hk ac hL e (us:=[.int _ tk,u]) ⟨F2,N2,n.CX,n.off,n.R,n.V⟩ ⟨⟨tk,rfl⟩,hr,trivial⟩ k
  |val=>
    refine ME e ?_;clear e;intro i ez0 e;rw[ez0] at hx
    refine YF e ?_;clear e;intro vs hs e
    refine b7 hx λu z1 z2=>?_;clear hx;rw[z1] at hi
    refine b7 z2 λad ha z3=>?_;clear z2;replace hi:=z3▸hi
    have:v=.ref ad:=hi
    subst this
    refine b7 (lK n.N n.R hs ha) λws hw it=>?_
    obtain⟨l1,l2⟩:=lE (L:=L) e
    refine unpackN_ n.F n.NX it hh (by rw[l1,bT,hw.len]) l2 λh2 F2 N2=>?_
    exact m6 hk ac hL e (us:=ws) ⟨F2,N2,n.CX,n.off,n.R,n.V⟩ hw k
  |_=>exact b5 e
noncomputable def OC (ih:Ih) (fn:Fn) (t:Expr) (b:List Stmt) (fz:List SO->Bool):List SI->List SO->Loc->Tr (Flo×List SO×Loc)
 |[],st,loc=>match fz st with
  |true=>.ret (.next,st,loc)
  |false=>.no
 |x::r,st,loc=>match mQ fn st loc t x with
  |some q=>(ih.S fn q.1 q.2 b).bind λy=>match fz y.2.1 with
   |true=>match y.1 with
    | .next=>OC ih fn t b fz r y.2.1 y.2.2
    | .cont=>OC ih fn t b fz r y.2.1 y.2.2
    | .brk=>.ret (.next,y.2)
    | .ret v=>.ret (.ret v,y.2)
   |false=>.no
  |none=>.no
include I in
theorem qQ {t:Expr} {b:List Stmt} {fz:List SO->Bool}
  (C:Fx w fn A outer aZ base aY L p loose aC mg mb) (ac:fn.cs=none) {φ:Flo×List SO×Loc->Prop} (PE:PassesOwn (model prog w) A (fn.env L) E) {ρ₀:List Addr} {ws:List (Addr×String)} {keep:List (Addr×Obj)}
  (hkeep:∀st aA,fz st=true->Ext ρ₀ (adr aA)->Rep w G st aA->SubL keep (xs++aA))
  (k:∀f aT loc' fl aV aB h' aU,φ (f,aT,loc')->Ext ρ₀ (adr aB)->Now w G aY L loc' aT aV xs aB h'->fz aT=true->K6 (adr aB) f fl->Q fl {s with heap:=h',toks:=aU}):
  ∀(svs:List SI) {us:List Itm} {st:List SO} {loc:Loc} {mm:Str->Option Value} {aA:List (Addr×Obj)},(OC ih fn t b fz svs st loc).wp φ->Ext ρ₀ (adr aA)->SIRs (adr aA) svs us->
   Rep w G st aA->(∀p∈xs,∀q∈aA,p.1≠q.1)->(∀x v,lk loc x=some v->VL L mm (adr aA) x v)->(∀p∈xs++aA,∀q∈ws,p.1≠q.1)->
   ItemsRest prog w A E aY (fn.fenv L) t b Q s ws keep us mm (xs++aA)
 |[],us,st,loc,mm,aA,h,x0,hv,R,off,V,ne=>by
  cases us with
  |cons=>exact hv.elim
  |nil=>
   refine i8 h ?_;clear h;intro hz h
   exact ItemsRest.zero λh2 aX F2 N2=>k .next st loc .next mm aA h2 aX h x0 ⟨F2,N2,(λc e=>by rw[C.c0 ac] at e;exact b5 e),off,R,V⟩ hz rfl
 |x::r,us,st,loc,mm,aA,h,x0,hv,R,off,V,ne=>by
  cases us with
  |nil=>exact hv.elim
  |cons u us'=>
   have hL:=C.c0 ac
   have e0:=Fn.env0 ac L
   obtain⟨hv1,hv2⟩:=hv
   refine aBp h ?_;clear h;intro q hq h
   intro v h2 aX hi F2
   refine rH λits hits N2=>?_
   rw[show assign t (fn.fenv L) v=assign t (fn.env L) v from by rw[e0]]
   have hmem:∀z∈its,∃y∈ws,z.1=y.1:=λz hz=>by
    have:z.1∈its.map (·.1):=bY.mpr ⟨z,hz,rfl⟩
    rw[hits] at this
    refine b7 (bY.mp this) λy hy e=>?_
    exact⟨y,hy,e.symm⟩
   have n2:Now w G aY L loc st mm (its++xs) aA h2:=by
    refine⟨F2,by rw[bB];exact N2,(λc e=>by rw[hL] at e;exact b5 e),λp hp q hq=>?_,R,V⟩
    rcases bN.mp hp with e|e
    ·refine b7 (hmem p e) λy hy e1=>?_
     rw[e1]
     exact Ne.symm (ne q (ay _ hq) y hy)
    ·exact off p e q hq
   refine lJ C.hk ac C.hh hL hq (s:={s with heap:=h2,toks:=aX}) n2 hv1 hi λmm3 aK h3 tk3 x3 n3=>?_
   rw[show execs b (fn.fenv L)=execs b (fn.env L) from by rw[e0]]
   refine I.S fn _ _ b C ac (Tr.wp_bind h) PE n3 λf aT loc' fl aV aB h' aU af x4 n4 hfl=>?_
   simp only at af
   refine i8 af ?_;clear af;intro hz af
   have xx:=x3.trans x4
   have offx:∀p∈xs,∀q∈aB,p.1≠q.1:=λp hp=>n4.off p (ay _ hp)
   have n5:Now w G aY L loc' aT aV xs aB h':=⟨n4.F,(λp hp=>n4.NX p (by rw[bB];exact ay _ hp)),(λc e=>by rw[hL] at e;exact b5 e),offx,n4.R,n4.V⟩
   have again:(OC ih fn t b fz r aT loc').wp φ->UnrEndW aY L.a {s with heap:=h2,toks:=aX} its (λm' n'=>SubL keep n'/\ItemsRest prog w A E aY (fn.fenv L) t b Q s ws keep us' m' n') {s with heap:=h',toks:=aU}:=by
    intro af
    have hno:∀p∈xs++aB,∀q∈its,p.1≠q.1:=λp hp q hq=>by
     refine b7 (hmem q hq) λy hy e1=>?_
     rcases bN.mp hp with e|e
     ·rw[e1];exact ne p (bK _ e) y hy
     ·exact Ne.symm (n4.off q (bK _ hq) p e)
    have ne':∀p∈xs++aB,∀q∈ws,p.1≠q.1:=λp hp q hq=>by
     have:q.1∈its.map (·.1):=by rw[hits];exact bY.mpr ⟨q,hq,rfl⟩
     refine b7 (bY.mp this) λy hy e=>?_
     rw[<-e]
     exact hno p hp y hy
    exact⟨h',aU,aV,xs++aB,rfl,n4.F,(by rw[<-bB];exact n4.NX),hno,hkeep aT aB hz (x0.trans xx) n4.R,qQ C ac PE hkeep k r af (x0.trans xx) (SIRs.ext xx hv2) n4.R offx n4.V ne'⟩
   cases f with
   |next=>cases hfl;exact again af
   |cont=>cases hfl;exact again af
   |brk=>cases hfl;exact k .next aT loc' .next aV aB h' aU af (x0.trans xx) n5 hz rfl
   |ret v2=>
    refine b7 hfl λu2 z1 hu=>?_;clear hfl;subst z1
    exact k (.ret v2) aT loc' (.ret u2) aV aB h' aU af (x0.trans xx) n5 hz ⟨u2,rfl,hu⟩
end
theorem K8 (R:Rep w G st aA) {j:Nat} {ax:Addr} {lo:Obj} {es:List (Str×SV)} (hj:aA[j]? =some (ax,lo)) (ho:RO w G (adr aA) ax (.ud es) lo):Rep w (ghost G ax lo) (st.set j (.pud es)) aA:=by
 have R':=dL R hj
 refine⟨by simp[R.len],R.nd,λi so h=>?_⟩
 rw[bc] at h
 by_cases e:j=i
 ·subst e
  have il:j<st.length:=by
   rw[<-R.len]
   rcases be j aA.length with q|q
   ·exact q
   ·rw[bP q] at hj;exact b5 hj
  simp[il] at h
  subst h
  exact⟨_,hj,by show lo=ghost G ax lo ax;unfold ghost;rw[if_pos rfl],ho⟩
 ·simp[e] at h
  exact R'.at_ i so (by rw[bc];simp[e,h])
theorem AF {j:Nat} {ax:Addr} {lo:Obj} {es':List (Str×SV)} (R:Rep w (ghost G ax lo) st aA) {so:SO} (ha:(adr aA)[j]? =some ax) (hf:st[j]? =some (.pud es')) (ho:RO w G (adr aA) ax so lo):
  Rep w G (st.set j so) aA/\aA[j]? =some (ax,lo):=by
 refine qM (R.at_ j _ hf) λp hp hr hrest=>?_
 have e2:p.1=ax:=fH hp ha
 have e3:p.2=lo:=by
  rw[hr,e2]
  unfold ghost
  rw[if_pos rfl]
 have e4:aA[j]? =some (ax,lo):=by rw[hp,<-e2,<-e3]
 refine⟨⟨by simp[R.len],R.nd,λi so' h=>?_⟩,e4⟩
 rw[bc] at h
 by_cases e:j=i
 ·subst e
  have il:j<st.length:=rV hf
  simp[il] at h
  subst h
  exact⟨_,e4,ho⟩
 ·simp[e] at h
  refine b7 (R.at_ i so' h) λp' hp' hr'=>?_
  refine⟨p',hp',(pJ λq=>e ?_).mp hr'⟩
  exact(qI R.nd e4 hp' q.symm)
section
variable {w:World} {A:Around} {E:Value->Shared->Prop} {s:Shared} {env:Env} {aY:Heap} {target:Expr} {body:List Stmt} {Q:Flow->Shared->Prop}
theorem wH {d:Addr} {od:Obj} {kvs:List (Str×Value)} {m₀:Str->Option Value}
  (hh:A.handled=none) (F:Fr aY env.locals s.heap m₀) (N:News aY env.locals s.heap aA) (lo:(d==sysModules)=false) (hd:od.IsDictOf (PySem.strKind rw1.prog w) kvs) (hm:(d,od)∈aA)
  (rest₀:∀I:Addr,(∀p∈aA,p.1<I)->ItemsRest rw1.prog w A E aY env target body Q s [(I,"dict_keyiterator")] [(d,od)] (kvs.map λp=>Itm.tok (λt=>.str p.1 t)) m₀ aA):
  wpAny (model rw1.prog w) A (pyIter (.ref d)) (λit s₂=>TurnsAt rw1.prog w A aY env target body Q E it s₂) E s:=by
 have hax:=N _ hm
 have hdo:=kda_dict (s:=s) N hm hd
 obtain⟨ep,hat⟩:=hdo.dictAt
 have hne:d≠s.heap.objs.size:=Nat.ne_of_lt hat.lt_size
 refine wpAny_pyIter_dict lo hat ?_
 refine ktu_core (tk0:=s.toks) (keep:=[(d,od)]) (KTurns.ofWalks (Walks.dictKeys (knd:=PySem.strKind rw1.prog w) hh s.heap.objs.size d hne kvs ep) λi v s Q E st q=>letGo_keyiter st.1 q) (by rw[bF]) ?_ ?_ ?_ ?_ ?_ ?_ ?_ ?_ (F.push _) (λp hp=>⟨Heap.get?_push_of_some _ (N p hp).1,(N p hp).2⟩) (And.intro hm trivial) (rest₀ _ λp hp=>Heap.lt_size (N p hp).1)
 ·rintro i v h ⟨k,x,hx,hk⟩
  refine⟨.tok (λt=>.str k t),by rw[bp,hx];rfl,?_⟩
  show ∃t,v=.str k t
  cases v with
  |str y t=>
   have:y=k:=by simpa [PySem.strKind,Value.isStrOf] using hk
   exact⟨t,by rw[this]⟩
  |_=>simp[PySem.strKind,Value.isStrOf] at hk
 ·rintro i h ⟨⟨oi,g,c,_⟩,_⟩
  exact⟨[(s.heap.objs.size,oi)],⟨⟨rfl,c⟩,trivial⟩,λp hp=>by rw[bo.mp hp];exact g⟩
 ·intro b hb
  have hb':b=s.heap.objs.size:=by simpa using hb
  rw[hb']
  exact⟨List.mem_cons_self ..,next_is_new F⟩
 ·intro b hb
  simpa using hb
 ·intro b hb
  have hb':b=s.heap.objs.size\/b=d:=by simpa using hb
  rcases hb' with e|e
  ·exact .inl (by simp[e])
  ·exact .inr ⟨od,by simp[e]⟩
 ·intro hI
  have hb':env.locals=s.heap.objs.size\/env.locals=d:=by simpa using hI
  rcases hb' with e|e
  ·exact absurd F.ns.lt (e▸Nat.lt_irrefl _)
  ·exact hax.2.1 e.symm
 ·intro p hp hI
  exact absurd (Heap.lt_size (N p hp).1) ((bo.mp hI)▸Nat.lt_irrefl _)
 ·exact⟨⟨_,Heap.get?_push_size _ rfl,rfl,rfl⟩,hat.push _⟩
end
noncomputable def uO (st:List SO) (j:Nat):Bool:=match st[j]? with
 |some (.pud _)=>true
 |_=>false
noncomputable def d5 (e:Expr):Bool:=match e with
 | .Name ..| .Attribute ..| .Call ..| .Subscript ..| .BinOp ..=>true
 |_=>false
theorem dB {e:Expr} (h:d5 e=true) (env:Env) (v:Value):foldedSetIterable e env v=pure v:=by
 cases e<;>first|rfl|(exact d9 h;done)
noncomputable def FO:Nat->List SV->List SI
 |_,[]=>[]
 |n,v::r=>.pair (n:Int) v::FO (n+1) r
theorem FP:∀{us:List Value} (n:Nat),RVs ρ vs us->SIRs ρ (FO n vs) (enumItems n us):=by
 induction vs with
 |nil=>intro us n h;rw[All2.nl h];exact trivial
 |cons v r ih=>intro us n h;exact All2.cs h λu t e a b=>e▸⟨⟨_,rfl,a⟩,ih (n+1) b⟩
theorem NI (h:RVs ρ vs us):SIRs ρ (vs.map .val) (us.map .val):=All2.map (λ_ _ a=>⟨_,rfl,a⟩) h
theorem L4 {es:List (Str×SV)} {kvs:List (Str×Value)} (h:RK ρ es kvs):SIRs ρ (es.map λp=>.key p.1) (kvs.map λp=>Itm.tok (λt=>.str p.1 t)):=All2.map (λ_ _ a=>by show _=_;rw[a.1]) h
noncomputable def lR (e:Expr):Option (Expr×Expr):=match e with
 | .Call f args ks _=>match args,ks with
  |[a],[]=>some (f,a)
  |_,_=>none
 |_=>none
theorem pL {e:Expr} {q:Expr×Expr} (h:lR e=some q):∃cp,e=.Call q.1 [q.2] [] cp:=by
 cases e with
 |Call f args ks cp=>cases args with
  |nil=>exact b5 h
  |cons a r=>cases r with
   |cons=>exact b5 h
   |nil=>cases ks with
    |cons=>exact b5 h
    |nil=>exact⟨cp,by rw[<-oS h]⟩
 |_=>exact b5 h
def wI (it:Expr):Option (Str×Pos):=match lR it with
 |some q=>match kU q.1 with
  |some n=>match seq n.1 "enumerate" with
   |true=>kU q.2
   |false=>none
  |none=>none
 |none=>none
theorem AV {it:Expr} {q:Str×Pos} (h:wI it=some q):∃ep cp,it=.Call (.Name "enumerate" ep) [.Name q.1 q.2] [] cp:=by
 unfold wI at h
 cases e1:lR it with
 |none=>rw[e1] at h;exact b5 h
 |some c=>
  rw[e1] at h
  dsimp only at h
  cases e2:kU c.1 with
  |none=>rw[e2] at h;exact b5 h
  |some n=>
   rw[e2] at h
   dsimp only at h
   cases e3:seq n.1 "enumerate" with
   |false=>rw[e3] at h;exact b5 h
   |true=>
    rw[e3] at h
    obtain⟨cp,e⟩:=pL e1
    exact⟨n.2,cp,by rw[e,fX e2,fX h,dI e3]⟩
noncomputable def yX (t:Expr):Bool:=match t with
 | .Tuple ..=>true
 |_=>false
theorem GH {t:Expr} {R:Prop} (h:yX t=true) (k:∀a b c,t=.Tuple a b c->R):R:=by
 cases t with
 |Tuple a b c=>exact k a b c rfl
 |_=>exact d9 h
def HT (tb:Tb) (fn:Fn):Bool:=match lk fn.scope.names "enumerate" with
 |some .globalImplicit=>match lk tb.glob "enumerate" with
  |none=>match lk tb.blt "enumerate" with
   |some v=>match v with
    | .type t=>decide (t="enumerate")
    |_=>false
   |none=>false
  |some _=>false
 |_=>false
def G9 (tb:Tb) (ih:Ih) (fn:Fn) (st:List SO) (loc:Loc) (t it:Expr) (b:List Stmt):Tr (Flo×List SO×Loc):=match wI it with
 |some q=>match HT tb fn&&yX t with
  |true=>(ih.E fn st loc (.Name q.1 q.2)).bind λy=>match y.1 with
   | .obj j=>match y.2[j]? with
    |some (.list vs)=>(OC ih fn t b (λst=>gJ st j) (FO 0 vs) (y.2.set j .fz) loc).bind λz=>.ret (z.1,z.2.1.set j (.list vs),z.2.2)
    |_=>.no
   |_=>.no
  |false=>.no
 |none=>match d5 it with
  |true=>(ih.E fn st loc it).bind λy=>match y.1 with
   | .obj j=>match y.2[j]? with
    |some (.list vs)=>(OC ih fn t b (λst=>gJ st j) (vs.map .val) (y.2.set j .fz) loc).bind λz=>.ret (z.1,z.2.1.set j (.list vs),z.2.2)
    |some (.ud es)=>(OC ih fn t b (λst=>uO st j) (es.map λp=>.key p.1) (y.2.set j (.pud es)) loc).bind λz=>.ret (z.1,z.2.1.set j (.ud es),z.2.2)
    |_=>.no
   |_=>.no
  |false=>.no
section
variable {w:World} {prog:Program} {ih:Ih} {tb:Tb} (TB:TbOk w tb) (KO:eZ w tb) (I:IhOk w prog ih)
theorem s5 {ρ₀:List Addr} {j:Nat} {ax:Addr} {lo:Obj} (ha:ρ₀[j]? =some ax):∀st aA,gJ st j=true->Ext ρ₀ (adr aA)->Rep w (ghost G ax lo) st aA->SubL [(ax,lo)] (xs++aA):=by
 intro st aA hz x R
 refine b7 (R.at_ j _ (i6 hz)) λp hp hr=>?_
 have e2:p.1=ax:=fH hp (x.get ha)
 have e3:p.2=lo:=by
  have:p.2=ghost G ax lo p.1:=hr
  rw[this,e2];unfold ghost;rw[if_pos rfl]
 have:p=(ax,lo):=by rw[<-e2,<-e3]
 exact⟨by rw[<-this];exact ay _ (bD hp),trivial⟩
theorem uP {j:Nat} (h:uO st j=true):∃es,st[j]? =some (.pud es):=by
 unfold uO at h
 refine aBq h ?_;clear h;intro es e h
 exact⟨es,e⟩
theorem GN {ρ₀:List Addr} {j:Nat} {ax:Addr} {lo:Obj} (ha:ρ₀[j]? =some ax):∀st aA,uO st j=true->Ext ρ₀ (adr aA)->Rep w (ghost G ax lo) st aA->SubL [(ax,lo)] (xs++aA):=by
 intro st aA hz x R
 obtain⟨es,he⟩:=uP hz
 refine qM (R.at_ j _ he) λp hp hr _=>?_
 have e2:p.1=ax:=fH hp (x.get ha)
 have e3:p.2=lo:=by rw[hr,e2];unfold ghost;rw[if_pos rfl]
 have:p=(ax,lo):=by rw[<-e2,<-e3]
 exact⟨by rw[<-this];exact ay _ (bD hp),trivial⟩
include TB I in
theorem aAQ (aH:prog=rw1.prog) {fn:Fn} {st:List SO} {loc:Loc} {t it:Expr} {b:List Stmt} {pos:Pos}:SS w prog fn st loc (G9 tb ih fn st loc t it b) (exec (.For t it b [] pos)):=by
 subst aH
 intro A outer aZ base aY L p loose aC mg mb C ac φ h s mm G xs aA Q E PE n k
 have e0:=Fn.env0 ac L
 have PE':PassesOwn (model rw1.prog w) A (fn.fenv L) E:=by rw[<-e0];exact PE
 have hws:∀{aB:List (Addr×Obj)} {I₀:Addr} {nm:String},(∀p∈xs++aB,p.1<I₀)->∀p∈xs++aB,∀q∈[(I₀,nm)],p.1≠q.1:=by
  intro aB I₀ nm lt p hp q hq
  simp at hq
  subst hq
  exact Nat.ne_of_lt (lt p hp)
 unfold G9 at h
 refine mN2 h ?_ ?_<;>clear h
 ·intro src hsrc h
  refine i8 h ?_;clear h;intro hb h
  simp only[bG] at hb
  obtain⟨ep,cp,ei⟩:=AV hsrc
  clear hsrc;subst ei
  have hE:=hb.1
  unfold HT at hE
  refine YM hE ?_;clear hE;intro hk hE
  rw[dH] at hk
  refine YN hE ?_;clear hE;intro hg hE
  refine Q1 hE ?_;clear hE;intro v hbl hE
  refine YO hE ?_;clear hE;intro tn ez0 hE;rw[ez0] at hbl
  have htn:tn="enumerate":=by simpa using hE
  rw[htn] at hE;rw[htn] at hbl
  refine jN (TB.blt _ (lA hbl)) λh1 h2 h3=>?_
  refine GH hb.2 λelts kk tp ez=>?_
  clear hb;subst ez
  rw[e0]
  refine For_turns (env:=fn.fenv L) n.F ?_ (by intro v;rfl) PE'
  refine Call_ (nameX_B n.F C.X (topRead_of C.T) h1 h2 h3 ?_ C.hk hk (by decide))
  refine PyProof.Rows.callWith_type1 (args_cons ?_)
  rw[show eval (.Name src.1 src.2) (fn.fenv L)=eval (.Name src.1 src.2) (fn.env L) from by rw[e0]]
  refine I.E fn st loc _ C (Tr.wp_bind h) n λv aT u aB h' aU af x n' hv=>args_nil ?_
  refine qC af ?_;clear af;intro j ez0 af;subst ez0
  refine b7 hv λax ha z1=>?_;clear hv;subst z1
  refine wZ af ?_;clear af;intro vs hs af
  refine fP (cU n'.N n'.R hs ha) λws q hw hq il=>?_
  refine ktu_enum C.hh n'.F n'.NX (ay _ (bD hq)) rfl rfl rfl λI₀ lt=>?_
  refine qQ I C ac PE (G:=ghost G ax (listOf ws.toArray q)) (fz:=λst=>gJ st j) (ρ₀:=adr aB) (s5 ha) ?_ _ (Tr.wp_bind af) .rfl' (FP 0 hw) (dL n'.R hq) n'.off n'.V ?_
  ·intro f st2 loc2 fl aQ aJ h2 aX hφ2 x2 n2 fz hfl
   obtain⟨R2,_⟩:=jP n2.R (so:=.list vs) (x2.get ha) (i6 fz) ⟨ws,q,hw.ext x2,rfl⟩
   exact k f _ loc2 fl aQ aJ h2 aX hφ2 (x.trans x2) ⟨n2.F,n2.NX,n2.CX,n2.off,R2,n2.V⟩ hfl
  ·intro p hp q hq
   have:=lt p hp
   simp at hq
   rcases hq with rfl|rfl
   ·exact Nat.ne_of_lt (Nat.lt_succ_of_lt this)
   ·exact Nat.ne_of_lt this
 ·intro _ h
  refine i8 h ?_;clear h;intro hb h
  rw[e0]
  refine For_turns (env:=fn.fenv L) n.F ?_ (dB hb _) PE'
  rw[show eval it (fn.fenv L)=eval it (fn.env L) from by rw[e0]]
  refine I.E fn st loc _ C (Tr.wp_bind h) n λv aT u aB h' aU af x n' hv=>?_
  refine qC af ?_;clear af;intro j ez0 af;subst ez0
  refine b7 hv λax ha z1=>?_;clear hv;subst z1
  refine aBr af ?_ ?_<;>clear af
  ·intro vs hs af
   refine fP (cU n'.N n'.R hs ha) λws q hw hq il=>?_
   refine iter_listTurns C.hh n'.F n'.NX (ay _ (bD hq)) rfl rfl λI₀ lt=>?_
   refine qQ I C ac PE (G:=ghost G ax (listOf ws.toArray q)) (fz:=λst=>gJ st j) (ρ₀:=adr aB) (s5 ha) ?_ _ (Tr.wp_bind af) .rfl' (NI hw) (dL n'.R hq) n'.off n'.V (hws lt)
   intro f st2 loc2 fl aQ aJ h2 aX hφ2 x2 n2 fz hfl
   obtain⟨R2,_⟩:=jP n2.R (so:=.list vs) (x2.get ha) (i6 fz) ⟨ws,q,hw.ext x2,rfl⟩
   exact k f _ loc2 fl aQ aJ h2 aX hφ2 (x.trans x2) ⟨n2.F,n2.NX,n2.CX,n2.off,R2,n2.V⟩ hfl
  ·intro es hs af
   refine kS (qZ n'.N n'.R hs ha) λod kvs hk hq hd lo=>?_
   refine wH C.hh n'.F n'.NX lo hd (ay _ (bD hq)) λI₀ lt=>?_
   refine qQ I C ac PE (G:=ghost G ax od) (fz:=λst=>uO st j) (ρ₀:=adr aB) (GN ha) ?_ _ (Tr.wp_bind af) .rfl' (L4 hk) (K8 n'.R hq ⟨kvs,hk,hd,lo⟩) n'.off n'.V (hws lt)
   intro f st2 loc2 fl aQ aJ h2 aX hφ2 x2 n2 fz hfl
   obtain⟨es',he⟩:=uP fz
   obtain⟨R2,_⟩:=AF n2.R (so:=.ud es) (x2.get ha) he ⟨kvs,hk.ext x2,hd,lo⟩
   exact k f _ loc2 fl aQ aJ h2 aX hφ2 (x.trans x2) ⟨n2.F,n2.NX,n2.CX,n2.off,R2,n2.V⟩ hfl
end
noncomputable def j8 (env:Env):List (Str×NameKind)->List (Str×Addr)->List (Str×Addr)
 |[],aq=>aq
 |(n,k)::r,aq=>if k==.free then j8 env r ((n,(env.cells.lookup n).getD 0)::aq) else j8 env r aq
theorem pX {env:Env} {f:Str×NameKind->List (Str×Addr)->Sem (ForInStep (List (Str×Addr)))}
  (hf:∀q r,f q r=if (q.2==NameKind.free)=true then(cellOf env q.1 >>=λc=>pure (ForInStep.yield ((q.1,c)::r))) else pure (ForInStep.yield r)):
  ∀(l:List (Str×NameKind)) (aq:List (Str×Addr)),(∀q∈l,q.2=.free->(env.cells.lookup q.1).isSome=true)->(forIn l aq f:Sem (List (Str×Addr)))=pure (j8 env l aq)
 |[],aq,_=>rfl
 |(n,k)::r,aq,hq=>by
  rw[List.forIn_cons,hf]
  unfold j8
  simp only
  cases e:(k==NameKind.free) with
  |true=>
   have hk:k=.free:=by simpa using e
   have:=hq (n,k) (.head _) hk
   cases g:env.cells.lookup n with
   |none=>rw[g] at this;first|exact b5 this|exact d9 this
   |some a=>
    simp only[if_true,Option.getD_some]
    have hc:cellOf env n=pure a:=by unfold cellOf;rw[g]
    rw[hc]
    exact pX hf r _ λq hq'=>hq q (.tail _ hq')
  |false=>
   simp only[bW,if_false]
   exact pX hf r _ λq hq'=>hq q (.tail _ hq')
theorem eM {sc:PySem.Scope} {env:Env} (h:∀q∈sc.names,q.2=.free->(env.cells.lookup q.1).isSome=true):closureFor sc env=pure (j8 env sc.names []):=by
 simp only[closureFor]
 rw[pX (env:=env) (λq r=>?_) sc.names [] h]
 ·rfl
 ·obtain⟨n,k⟩:=q
  rfl
theorem pQ {env:Env} {y:Str}:∀(l:List (Str×NameKind)) (aq:List (Str×Addr)),(j8 env l aq).lookup y=if l.any (λq=>q.1==y&&q.2==.free) then some ((env.cells.lookup y).getD 0) else aq.lookup y
 |[],aq=>rfl
 |(n,k)::r,aq=>by
  unfold j8
  rw[bn]
  cases e:(k==NameKind.free) with
  |true=>
   simp only[if_true,Bool.and_true]
   rw[pQ r,List.lookup_cons]
   cases g:(n==y) with
   |true=>
    have:n=y:=by simpa using g
    subst this
    simp
   |false=>
    have:(y==n)=false:=by simpa using λq=>by subst q;simp at g
    rw[this]
    simp
  |false=>
   simp only[bW,if_false,Bool.and_false,Bool.false_or]
   exact pQ r aq
noncomputable def dE (fn:Fn) (loc:Loc):List (Str×NameKind)->Option Loc
 |[]=>some []
 |(n,k)::r=>match k with
  | .free=>match lk loc n with
   |some (.cell i)=>match dE fn loc r with
    |some l=>some ((n,.cell i)::l)
    |none=>none
   |_=>none
  |_=>dE fn loc r
theorem dN (hL:L.c=none) (V:∀x v,lk loc x=some v->VL L mm ρ x v):∀{l:List (Str×NameKind)} {cl:Loc},dE fn loc l=some cl->
  (∀q∈l,q.2=.free->(L.cl.lookup q.1).isSome=true)/\(∀x v,lk cl x=some v->∃i a,v=.cell i/\L.cl.lookup x=some a/\ρ[i]? =some a/\l.any (λq=>q.1==x&&q.2==.free)=true)
 |[],cl,h=>by(replace h:=oS h;subst h);exact⟨(λ_ h=>nomatch h),(λ_ _ h=>nomatch h)⟩
 |(n,k)::r,cl,h=>by
  unfold dE at h
  have other:k≠.free->dE fn loc r=some cl->((∀q∈(n,k)::r,q.2=.free->(L.cl.lookup q.1).isSome=true)/\(∀x v,lk cl x=some v->∃i a,v=.cell i/\L.cl.lookup x=some a/\ρ[i]? =some a/\((n,k)::r).any (λq=>q.1==x&&q.2==.free)=true)):=λhk hr=>by
   obtain⟨a,b⟩:=dN hL V hr
   refine⟨λq hq e=>?_,λx v hx=>?_⟩
   ·rcases bX.mp hq with z|z
    ·subst z;exact absurd e hk
    ·exact a q z e
   ·refine kS (b x v hx) λi ad h1 h2 h3 h4=>?_
    exact⟨i,ad,h1,h2,h3,by rw[bn,h4,Bool.or_true]⟩
  cases k with
  |free=>
   simp only at h
   refine YJ h ?_;clear h;intro i hl h
   refine aBs h ?_;clear h;intro l' hr h
   replace h:=oS h;subst h
   obtain⟨a,b⟩:=dN hL V hr
   refine b7 (V n _ hl) λad h1 h2=>?_
   have h1:L.cl.lookup n=some ad:=by unfold FL.cls at h1;rw[hL] at h1;exact h1
   refine⟨λq hq e=>?_,λx v hx=>?_⟩
   ·rcases bX.mp hq with z|z
    ·subst z;rw[h1];rfl
    ·exact a q z e
   ·unfold lk at hx
    cases g:seq n x with
    |true=>
     rw[g] at hx
     replace hx:=oS hx;subst hx
     have:=dI g
     subst this
     exact⟨i,ad,rfl,h1,h2,by rw[bn];simp⟩
    |false=>
     rw[g] at hx
     refine kS (b x v hx) λi' ad' h1 h2 h3 h4=>?_
     exact⟨i',ad',h1,h2,h3,by rw[bn,h4,Bool.or_true]⟩
  |«local»=>exact other (by simp) h
  |cell=>exact other (by simp) h
  |globalExplicit=>exact other (by simp) h
  |globalImplicit=>exact other (by simp) h
noncomputable abbrev Fn.blk (fn:Fn) (sc:PySem.Scope):Fn:=⟨fn.name,fn.scope,fn.fa,fn.cdv,fn.dn,some sc⟩
noncomputable def OB (ih:Ih) (fn:Fn) (x:Str) (cl:Loc) (ct:Option Expr) (elt:Expr) (j:Nat):List SV->List SO->List SV->Tr (List SV×List SO)
 |[],st,aq=>.ret (aq,st)
 |v::r,st,aq=>match ct with
  |none=>(ih.E fn st ((x,v)::cl) elt).bind λy=>match gJ y.2 j with
   |true=>OB ih fn x cl ct elt j r y.2 (aq++[y.1])
   |false=>.no
  |some c=>(ih.T fn st ((x,v)::cl) c).bind λb=>match gJ b.2 j with
   |true=>rD false b.1
    ((ih.E fn b.2 ((x,v)::cl) elt).bind λy=>match gJ y.2 j with
     |true=>OB ih fn x cl ct elt j r y.2 (aq++[y.1])
     |false=>.no)
    (OB ih fn x cl ct elt j r b.2 aq)
   |false=>.no
section
variable {w:World} {prog:Program} {ih:Ih} {tb:Tb} (TB:TbOk w tb) (KO:eZ w tb) (I:IhOk w prog ih)
theorem lT {sc:PySem.Scope}
  (C:Fx w fn A outer aZ base aY L p loose aC mg mb) (ac:fn.cs=none) (c:CF):Fx w (fn.blk sc) A outer aZ base aY ⟨L.a,L.cl,some c⟩ p loose aC mg mb/\(fn.blk sc).env ⟨L.a,L.cl,some c⟩=compEnvC sc c.cl c.C (fn.env L):=by
 refine⟨⟨C.B,C.X,C.T,C.hA,rfl,C.hk,C.hh,C.hd,C.hu⟩,?_⟩
 rw[Fn.env0 ac]
 rfl
theorem t8 {cl:Loc} (hL:L.c=none) (V:∀x v,lk loc x=some v->VL L mm ρ x v) {sc:PySem.Scope} (hf:dE fn loc sc.names=some cl) {env:Env} (he:env.cells=L.cl)
  {C:Addr} {oC:Obj} {m2:Str->Option Value} (ok:LCg.NsObj oC m2) {x:Str} {v:SV} (hx:m2 x=some u) (hv:RV ρ v u):
  ∀y z,lk ((x,v)::cl) y=some z->VL ⟨L.a,L.cl,some ⟨C,oC,m2,j8 env sc.names [],ok⟩⟩ mm ρ y z:=by
 intro y z hy
 unfold lk at hy
 cases g:seq x y with
 |true=>
  rw[g] at hy
  replace hy:=oS hy;subst hy
  have:=dI g
  subst this
  exact jQ ⟨u,hx,hv⟩
 |false=>
  rw[g] at hy
  refine kS ((dN hL V hf).2 y z hy) λi a h1 h2 h3 h4=>?_
  subst h1
  refine⟨a,?_,h3⟩
  show(j8 env sc.names []).lookup y=some a
  rw[pQ,h4,if_pos rfl,he,h2]
  rfl
theorem kE {I₀ C D:Addr} {l:List (Addr×Obj)} {aB:List (Addr×Obj)} {oI oC oD:Obj} (h1:∀p∈xs,p.1≠I₀/\p.1≠C/\p.1≠D) (h2:∀p∈(I₀,oI)::(C,oC)::(D,oD)::xs,∀q∈aB,p.1≠q.1):LCg.Off3 I₀ C D (xs++aB):=
 LCg.Off3.of λp hp=>by
  rcases bN.mp hp with e|e
  ·exact h1 p e
  ·exact⟨Ne.symm (h2 _ (.head _) p e),Ne.symm (h2 _ (.tail _ (.head _)) p e),Ne.symm (h2 _ (.tail _ (.tail _ (.head _))) p e)⟩
theorem sN {its:Array Value} {i:Nat} {v0:Value} {t:List Value} (hd:its.toList.drop i=u::t) (hi:its[i]? =some v0):u=v0/\its.toList.drop (i+1)=t:=by
 constructor
 ·have h1:its.toList[i]? =some v0:=by simpa using hi
  have h2:(its.toList.drop i)[0]? =some u:=by rw[hd];rfl
  rw[List.getElem?_drop,Nat.add_zero,h1] at h2
  exact(bS h2).symm
 ·have:(its.toList.drop i).drop 1=t:=by rw[hd];rfl
  rwa [List.drop_drop] at this
theorem BJ {I D C:Addr} {o1 o2 o3:Obj} (h:∀q∈aA,q.1≠I/\q.1≠C/\q.1≠D) (off:∀p∈xs,∀q∈aA,p.1≠q.1):∀p∈(I,o1)::(C,o2)::(D,o3)::xs,∀q∈aA,p.1≠q.1:=λp hp q hq=>by
 rcases bX.mp hp with z|hp
 ·rw[z];exact Ne.symm (h q hq).1
 rcases bX.mp hp with z|hp
 ·rw[z];exact Ne.symm (h q hq).2.1
 rcases bX.mp hp with z|hp
 ·rw[z];exact Ne.symm (h q hq).2.2
 ·exact off p hp q hq
theorem xS {j:Nat} {ax:Addr} {lo:Obj} {its:Array Value} (R:Rep w G st aA) (fz:st[j]? =some .fz) (hax:(adr aA)[j]? =some ax) (hG:G ax=lo) (hlo:lo.cls=.type "list"/\∃n,lo.data=.seq its n):LCg.SrcAt aY ax its (xs++aA):=by
 refine b7 (R.at_ j _ fz) λq hq hr=>?_
 have e2:q.1=ax:=fH hq hax
 have e3:q.2=lo:=by have:q.2=G q.1:=hr;rw[this,e2,hG]
 have e4:(ax,lo)=q:=by rw[<-e2,<-e3]
 exact .inr ⟨lo,e4▸ay _ (bD hq),hlo.1,hlo.2⟩
theorem pN {h:Heap} {m2:Str->Option Value} {I Ca D:Addr} {oI oC oD:Obj} {cl:List (Str×Addr)} {hC:LCg.NsObj oC m2} (F:Fr aY L.a h mm) (N:News aY L.a h ((I,oI)::(Ca,oC)::(D,oD)::(xs++aA))) (off3:LCg.Off3 I Ca D (xs++aA)) (off:∀p∈xs,∀q∈aA,p.1≠q.1) (R:Rep w G st aA)
  (V:∀y z,lk loc y=some z->VL ⟨L.a,L.cl,some ⟨Ca,oC,m2,cl,hC⟩⟩ mm (adr aA) y z):Now w G aY ⟨L.a,L.cl,some ⟨Ca,oC,m2,cl,hC⟩⟩ loc st mm ((I,oI)::(Ca,oC)::(D,oD)::xs) aA h:=
 ⟨F,N,λ_ e=>oS e▸.tail _ (.head _),BJ (λq hq=>off3.mem q (ay _ hq)) off,R,V⟩
include I in
theorem XK {sc:PySem.Scope} {x:Str} {cl:Loc} {ct elt:Expr} {j:Nat}
  (C:Fx w fn A outer aZ base aY L p loose aC mg mb) (ac:fn.cs=none) {φ:List SV×List SO->Prop} {ρ₀:List Addr} {ax:Addr} {lo:Obj} {its:Array Value}
  (hf:dE fn loc sc.names=some cl) (hax:ρ₀[j]? =some ax) (hG:G ax=lo) (hlo:lo.cls=.type "list"/\∃n,lo.data=.seq its n) {Fin:List Value->List (Addr×Obj)->Prop}
  (fin:∀aq st ys aA,φ (aq,st)->Ext ρ₀ (adr aA)->Rep w G st aA->(∀p∈xs,∀q∈aA,p.1≠q.1)->st[j]? =some .fz->RVs (adr aA) aq ys->Fin ys (xs++aA)):
  ∀(svs:List SV) (us:List Value) (i:Nat) (st:List SO) (aq:List SV) (ys:List Value) (aA:List (Addr×Obj)),(OB ih (fn.blk sc) x cl (some ct) elt j svs st aq).wp φ->Ext ρ₀ (adr aA)->RVs (adr aA) svs us->its.toList.drop i=us->
   RVs (adr aA) aq ys->Rep w G st aA->(∀p∈xs,∀q∈aA,p.1≠q.1)->st[j]? =some .fz->(∀x v,lk loc x=some v->VL L mm (adr aA) x v)->
   LCt.CompRestT prog w A aY L.a mm (fn.env L) ct elt x sc (j8 (fn.env L) sc.names []) s (LCg.SrcAt aY ax its) (λi v=>its[i]? =some v) Fin us.length i ys (xs++aA)
 |[],us,i,st,aq,ys,aA,h,x0,hv,hd,hy,R,off,fz,V=>by
  cases us with
  |cons=>exact hv.elim
  |nil=>exact LCt.CompRestT.zero (fin aq st ys aA h x0 R off fz hy)
 |v::r,us,i,st,aq,ys,aA,h,x0,hv,hd,hy,R,off,fz,V=>by
  cases us with
  |nil=>exact hv.elim
  |cons u t=>
   have hL:=C.c0 ac
   refine LCt.CompRestT.succ λv0 I₀ oI Ca oC D m2 h2 aX E' hi hC hx F N off3 ne=>?_
   obtain⟨hu,hd'⟩:=sN hd hi
   replace hv:=hu▸hv
   obtain⟨C',e'⟩:=lT (sc:=sc) C ac ⟨Ca,oC,m2,j8 (fn.env L) sc.names [],hC⟩
   have hxs:∀p∈xs,p.1≠I₀/\p.1≠Ca/\p.1≠D:=λp hp=>off3.mem p (bK _ hp)
   have hcells:(fn.env L).cells=L.cl:=by rw[Fn.env0 ac]
   have n1:Now w G aY ⟨L.a,L.cl,some ⟨Ca,oC,m2,j8 (fn.env L) sc.names [],hC⟩⟩ ((x,v)::cl) st mm ((I₀,oI)::(Ca,oC)::(D,LCg.lst ys)::xs) aA h2:=pN F N off3 off R (t8 hL V hf hcells hC hx hv.1)
   have src:∀{aT:List SO} {aB:List (Addr×Obj)},Rep w G aT aB->aT[j]? =some .fz->Ext (adr aA) (adr aB)->LCg.SrcAt aY ax its (xs++aB):=λR' fz' x'=>xS R' fz' ((x0.trans x').get hax) hG hlo
   have sub:∀{aB:List (Addr×Obj)},∀p∈(I₀,oI)::(Ca,oC)::(D,LCg.lst ys)::(xs++aB),p∈((I₀,oI)::(Ca,oC)::(D,LCg.lst ys)::xs)++aB:=λp hp=>hp
   rw[<-e']
   refine I.T _ st _ ct C' (Tr.wp_bind h) n1 λb st3 aK h3 tk3 hφ3 x3 n3=>?_
   simp only at hφ3
   refine i8 hφ3 ?_;clear hφ3;intro hz hφ3
   have fz3:=i6 hz
   have off4:∀p∈xs,∀q∈aK,p.1≠q.1:=λp hp=>n3.off p (.tail _ (.tail _ (.tail _ hp)))
   have hp:=f9 hφ3
   cases b with
   |true=>
    simp only[if_true] at hp ⊢
    refine I.E _ st3 _ elt C' (Tr.wp_bind hp) n3 λy st4 u4 aL h4 tk4 hφ4 x4 n4 hu4=>?_
    simp only at hφ4
    refine i8 hφ4 ?_;clear hφ4;intro hz4 hφ4
    have fz4:=i6 hz4
    have xx:=x3.trans x4
    have off5:∀p∈xs,∀q∈aL,p.1≠q.1:=λp hp=>n4.off p (.tail _ (.tail _ (.tail _ hp)))
    refine LCg.CompEnd.intro n4.F n4.NX (xs++aL) sub (kE (l:=[]) hxs n4.off) (src n4.R fz4 xx) ?_
    exact XK C ac hf hax hG hlo fin r t (i+1) st4 (aq++[y]) (ys++[u4]) aL hφ4 (x0.trans xx) (hv.2.ext xx) hd' ((hy.ext xx).app ⟨hu4,trivial⟩) n4.R off5 fz4 λy v hy=>(V y v hy).ext xx
   |false=>
    simp only[bW,if_false] at hp ⊢
    refine LCg.CompEnd.intro n3.F n3.NX (xs++aK) sub (kE (l:=[]) hxs n3.off) (src n3.R fz3 x3) ?_
    exact XK C ac hf hax hG hlo fin r t (i+1) st3 aq ys aK hp (x0.trans x3) (hv.2.ext x3) hd' (hy.ext x3) n3.R off4 fz3 λy v hy=>(V y v hy).ext x3
include I in
theorem goU {sc:PySem.Scope} {x:Str} {cl:Loc} {elt:Expr} {j:Nat}
  (C:Fx w fn A outer aZ base aY L p loose aC mg mb) (ac:fn.cs=none) {φ:List SV×List SO->Prop} {ρ₀:List Addr} {ax:Addr} {lo:Obj} {its:Array Value}
  (hf:dE fn loc sc.names=some cl) (hax:ρ₀[j]? =some ax) (hG:G ax=lo) (hlo:lo.cls=.type "list"/\∃n,lo.data=.seq its n) {Fin:List Value->List (Addr×Obj)->Prop}
  (fin:∀aq st ys aA,φ (aq,st)->Ext ρ₀ (adr aA)->Rep w G st aA->(∀p∈xs,∀q∈aA,p.1≠q.1)->st[j]? =some .fz->RVs (adr aA) aq ys->Fin ys (xs++aA)):
  ∀(svs:List SV) (us:List Value) (i:Nat) (st:List SO) (aq:List SV) (ys:List Value) (aA:List (Addr×Obj)),(OB ih (fn.blk sc) x cl none elt j svs st aq).wp φ->Ext ρ₀ (adr aA)->RVs (adr aA) svs us->its.toList.drop i=us->
   RVs (adr aA) aq ys->Rep w G st aA->(∀p∈xs,∀q∈aA,p.1≠q.1)->st[j]? =some .fz->(∀x v,lk loc x=some v->VL L mm (adr aA) x v)->
   LCg.CompRest prog w A aY L.a mm (fn.env L) elt x sc (j8 (fn.env L) sc.names []) s (LCg.SrcAt aY ax its) (λi v=>its[i]? =some v) Fin us.length i ys (xs++aA)
 |[],us,i,st,aq,ys,aA,h,x0,hv,hd,hy,R,off,fz,V=>by
  cases us with
  |cons=>exact hv.elim
  |nil=>exact LCg.CompRest.zero (fin aq st ys aA h x0 R off fz hy)
 |v::r,us,i,st,aq,ys,aA,h,x0,hv,hd,hy,R,off,fz,V=>by
  cases us with
  |nil=>exact hv.elim
  |cons u t=>
   have hL:=C.c0 ac
   refine LCg.CompRest.succ λv0 I₀ oI Ca oC D m2 h2 aX E' hi hC hx F N off3 ne=>?_
   obtain⟨hu,hd'⟩:=sN hd hi
   replace hv:=hu▸hv
   obtain⟨C',e'⟩:=lT (sc:=sc) C ac ⟨Ca,oC,m2,j8 (fn.env L) sc.names [],hC⟩
   have hxs:∀p∈xs,p.1≠I₀/\p.1≠Ca/\p.1≠D:=λp hp=>off3.mem p (bK _ hp)
   have hcells:(fn.env L).cells=L.cl:=by rw[Fn.env0 ac]
   have n1:Now w G aY ⟨L.a,L.cl,some ⟨Ca,oC,m2,j8 (fn.env L) sc.names [],hC⟩⟩ ((x,v)::cl) st mm ((I₀,oI)::(Ca,oC)::(D,LCg.lst ys)::xs) aA h2:=pN F N off3 off R (t8 hL V hf hcells hC hx hv.1)
   have src:∀{aT:List SO} {aB:List (Addr×Obj)},Rep w G aT aB->aT[j]? =some .fz->Ext (adr aA) (adr aB)->LCg.SrcAt aY ax its (xs++aB):=λR' fz' x'=>xS R' fz' ((x0.trans x').get hax) hG hlo
   have sub:∀{aB:List (Addr×Obj)},∀p∈(I₀,oI)::(Ca,oC)::(D,LCg.lst ys)::(xs++aB),p∈((I₀,oI)::(Ca,oC)::(D,LCg.lst ys)::xs)++aB:=λp hp=>hp
   rw[<-e']
   refine I.E _ st _ elt C' (Tr.wp_bind h) n1 λy st4 u4 aL h4 tk4 hφ4 x4 n4 hu4=>?_
   simp only at hφ4
   refine i8 hφ4 ?_;clear hφ4;intro hz4 hφ4
   have fz4:=i6 hz4
   have off5:∀p∈xs,∀q∈aL,p.1≠q.1:=λp hp=>n4.off p (.tail _ (.tail _ (.tail _ hp)))
   refine LCg.CompEnd.intro n4.F n4.NX (xs++aL) sub (kE (l:=[]) hxs n4.off) (src n4.R fz4 x4) ?_
   exact goU C ac hf hax hG hlo fin r t (i+1) st4 (aq++[y]) (ys++[u4]) aL hφ4 (x0.trans x4) (hv.2.ext x4) hd' ((hy.ext x4).app ⟨hu4,trivial⟩) n4.R off5 fz4 λy v hy=>(V y v hy).ext x4
end
noncomputable def o5:NameKind->Bool
 | .local=>true
 |_=>false
noncomputable def yW:NameKind->Bool
 | .cell=>true
 |_=>false
def uT (l:List (Str×NameKind)) (x:Str):Bool:=match lk l x with
 |some k=>o5 k
 |none=>false
theorem p9 {l:List (Str×NameKind)} {x:Str} (h:uT l x=true):l.lookup x=some .local:=by
 unfold uT at h
 refine aBt h ?_;clear h;intro k e h
 rw[dH] at e
 rw[e]
 cases k<;>first|rfl|(exact d9 h;done)
def fF (sc:PySem.Scope) (x:Str):Bool:=(match sc.kind with| .function=>true|_=>false)&&(sc.names.all λz=>!yW z.2&&(!o5 z.2||uT sc.names z.1))&&uT sc.names x
def vS (fn:Fn) (sc:PySem.Scope) (y:Str) (py cp:Pos):Bool:=mB fn y&&Nat.beq py.line cp.line&&!(sc.names.any λq=>seq q.1 y&&(o5 q.2||yW q.2))
theorem eO {sc:PySem.Scope} {x:Str} (h:fF sc x=true):sc.kind=.function/\(∀z∈sc.names,z.2≠NameKind.cell)/\(∀z∈sc.names,z.2=NameKind.local->sc.names.lookup z.1=some .local)/\sc.names.lookup x=some .local:=by
 unfold fF at h
 simp only[bG] at h
 obtain⟨z1,h3⟩:=h
 obtain⟨h1,h2⟩:=z1
 refine⟨?_,λz hz e=>?_,λz hz e=>?_,p9 h3⟩
 ·refine aBu h1 ?_;clear h1;intro _ h1
  assumption
 ·have:=bO.mp h2 z hz
  simp only[bG] at this
  rw[e] at this
  exact d9 this.1
 ·have:=bO.mp h2 z hz
  simp only[bG] at this
  rw[e] at this
  exact p9 (by simpa [o5] using this.2)
noncomputable def D8 (e:Expr):Option Str:=match e with
 | .Name x _=>some x
 |_=>none
theorem AI {e:Expr} {x:Str} (h:D8 e=some x):∃p,e=.Name x p:=by
 cases e with
 |Name y p=>exact⟨p,by rw[bS h]⟩
 |_=>exact b5 h
def gL (gens:List Comprehension):Option (Str×Expr×Option Expr):=match gens with
 |[g]=>match D8 g.target with
  |some x=>match decide (g.is_async=0) with
   |true=>match g.ifs with
    |[]=>some (x,g.iter,none)
    |c::r=>match r with
     |[]=>some (x,g.iter,some c)
     |_::_=>none
   |false=>none
  |none=>none
 |_=>none
theorem fV {gens:List Comprehension} {x:Str} {it:Expr} {ct:Option Expr} (h:gL gens=some (x,it,ct)):∃px,gens=[⟨.Name x px,it,ct.toList,0⟩]:=by
 cases gens with
 |nil=>exact b5 h
 |cons g r=>cases r with
  |cons _ _=>exact b5 h
  |nil=>
   unfold gL at h
   refine QZ h ?_;clear h;intro y hy h
   refine XW h ?_;clear h;intro ha h
   obtain⟨px,e⟩:=AI hy
   obtain⟨t,i,fs,a⟩:=g
   replace ha:=of_decide_eq_true ha
   subst e ha
   cases fs with
   |nil=>cases h;exact⟨px,rfl⟩
   |cons c r=>cases r with
    |nil=>cases h;exact⟨px,rfl⟩
    |cons _ _=>exact b5 h
def nLc (ih:Ih) (fn:Fn) (st:List SO) (loc:Loc) (elt:Expr) (gens:List Comprehension) (sc:PySem.Scope):Tr (List SV×List SO):=match fn.cs with
 |some _=>.no
 |none=>match gL gens with
  |some (x,it,ct)=>match fF sc x&&d5 it with
   |true=>match dE fn loc sc.names with
    |some cl=>(ih.E fn st loc it).bind λz=>match z.1 with
     | .obj j=>match z.2[j]? with
      |some (.list vs)=>match small vs with
       |true=>(OB ih (fn.blk sc) x cl ct elt j vs (z.2.set j .fz) []).bind λy=>match gJ y.2 j with
        |true=>.ret (y.1,y.2.set j (.list vs))
        |false=>.no
       |false=>.no
      |_=>.no
     |_=>.no
    |none=>.no
   |false=>.no
  |none=>.no
def RB (ih:Ih) (fn:Fn) (st:List SO) (loc:Loc) (elt:Expr) (gens:List Comprehension) (sc:PySem.Scope):Tr (SV×List SO):=
 (nLc ih fn st loc elt gens sc).bind λy=>.ret (.obj y.2.length,y.2++[.list y.1])
def RA (ih:Ih) (fn:Fn) (st:List SO) (loc:Loc) (y:Str) (py:Pos) (elt:Expr) (gens:List Comprehension) (sc:PySem.Scope) (cp:Pos):Tr (Flo×List SO×Loc):=match vS fn sc y py cp with
 |true=>(nLc ih fn st loc elt gens sc).bind λz=>.ret (.next,z.2++[.list z.1],jG loc y (.obj z.2.length))
 |false=>match lk fn.scope.names y with
  |some .cell=>(RB ih fn st loc elt gens sc).bind λz=>(xE (putN fn z.2 loc y z.1)).bind λq=>.ret (.next,q.1,q.2)
  |_=>.no
section
variable {w:World} {prog:Program} {ih:Ih} {tb:Tb} (TB:TbOk w tb) (KO:eZ w tb) (I:IhOk w prog ih)
theorem kA {h2:Heap} {loc:Loc} {mm aV:Str->Option Value} {news0:List (Addr×Obj)} {aq:List SV} {ws ys:List Value} {j:Nat} {ax D:Addr} {q:Nat}
  (R:Rep w (ghost G ax (listOf ws.toArray q)) st aA) (ha:(adr aA)[j]? =some ax) (fz:st[j]? =some .fz) (hw:RVs (adr aA) vs ws) (off:∀p∈xs,∀q∈aA,p.1≠q.1) (CX:∀c,L.c=some c->(c.C,c.oC)∈xs)
  (hy:RVs (adr aA) aq ys) (F:Fr aY L.a h2 aV) (N:News aY L.a h2 ((D,LCg.lst ys)::(xs++aA))) (o1:LCg.Off1 D (xs++aA)) {loc':Loc} (V:∀x v,lk loc' x=some v->VL L aV (adr (aA++[(D,LCg.lst ys)])) x v):
  Now w G aY L loc' (st.set j (.list vs)++[.list aq]) aV xs (aA++[(D,LCg.lst ys)]) h2/\RV (adr (aA++[(D,LCg.lst ys)])) (.obj (st.set j (.list vs)).length) (.ref D):=by
 have lt:∀p∈xs++aA,p.1≠D:=pC o1
 obtain⟨R2,_⟩:=jP R (so:=.list vs) ha fz ⟨ws,q,hw,rfl⟩
 refine⟨⟨F,λp hp=>N p ?_,CX,λp hp z hz=>?_,R2.push (λp hp=>lt p (ay _ hp)) ⟨ys,ys.length,hy.ext ext_push,rfl⟩,V⟩,D,i4 R2,rfl⟩
 ·rw[<-bB] at hp
  rcases bN.mp hp with e|e
  ·exact .tail _ e
  ·simp at e;subst e;exact .head _
 ·rcases bN.mp hz with e|e
  ·exact off p hp z e
  ·simp at e;subst e;exact lt p (bK _ hp)
include I in
theorem aAR {fn:Fn} {st:List SO} {loc:Loc} {elt:Expr} {gens:List Comprehension} {sc:PySem.Scope} {cp:Pos}:SE w prog fn st loc (RB ih fn st loc elt gens sc) (eval (.ListComp elt gens sc cp)):=by
 intro A outer aZ base aY L p loose aC mg mb C φ h s mm G xs aA Q E n k
 replace h:=Tr.wp_bind h
 unfold nLc at h
 refine MF h ?_;clear h;intro ac h
 have hL:=C.c0 ac
 refine YQ h ?_;clear h;intro x it ct hg h
 refine i8 h ?_;clear h;intro hb h
 simp only[bG] at hb
 refine zO (eO hb.1) λhk hcell ah hlx=>?_
 refine MG h ?_;clear h;intro cl hf h
 have hcl:closureFor sc (fn.env L)=pure (j8 (fn.env L) sc.names []):=eM λq hq e=>by rw[Fn.env0 ac];exact(dN hL n.V hf).1 q hq e
 have fin:∀{s₁:Shared} {ax:Addr} {ws:List Value} {q:Nat} {vs:List SV} {j:Nat} {aT:List SO} {aB:List (Addr×Obj)} {φ2:List SV×List SO->Prop},s₁.gens=s.gens->s₁.drawn=s.drawn->s₁.os=s.os->Ext (adr aA) (adr aB)->Now w G aY L loc aT mm xs aB s₁.heap->
   (adr aB)[j]? =some ax->RVs (adr aB) vs ws->(∀y,φ2 y->(match gJ y.2 j with|true=>Tr.ret (y.1,y.2.set j (.list vs))|false=>Tr.no).wp λy=>φ (SV.obj y.2.length,y.2++[SO.list y.1]))->
   ∀aq st2 ys aJ,φ2 (aq,st2)->Ext (adr aB) (adr aJ)->Rep w (ghost G ax (listOf ws.toArray q)) st2 aJ->(∀p∈xs,∀q∈aJ,p.1≠q.1)->st2[j]? =some .fz->RVs (adr aJ) aq ys->∀g,LCg.FinE aY L.a mm {s₁ with heap:=g} Q ys (xs++aJ):=by
  intro s₁ ax ws q vs j aT aB φ2 e1 e2 e3 x0 n' ha hw hφ2 aq st2 ys aJ h2 x2 R2 off2 fz2 hy g
  intro D h3 tk3 F3 N3 o1
  have:=hφ2 _ h2
  have hz:gJ st2 j=true:=by unfold gJ;rw[fz2]
  simp only[hz] at this
  obtain⟨n3,r3⟩:=kA (loc:=loc) (loc':=loc) (mm:=mm) (news0:=aA) R2 (x2.get ha) fz2 (hw.ext x2) off2 n'.CX hy F3 N3 o1 (λx v hx=>((n'.V x v hx).ext x2).ext ext_push)
  have:=k _ _ (.ref D) _ h3 tk3 this ((x0.trans x2).trans ext_push) n3 r3
  obtain⟨hp,gn,dr,tk,os⟩:=s₁
  simp only at e1 e2 e3
  subst e1 e2 e3
  exact this
 obtain⟨px,rfl⟩:=fV hg
 cases ct with
 |none=>
  refine LCg.ListComp_U n.F hcl hcell hk ah hlx (I.E fn st loc it C (Tr.wp_bind h) n λv aT u aB h' aU af xt n' hv=>?_) (dB hb.2 _)
  simp only at af
  refine qC af ?_;clear af;intro j ez0 af;replace hv:=ez0▸hv
  refine b7 hv λax ha z1=>?_;clear hv;subst z1
  refine wZ af ?_;clear af;intro vs hs af
  refine fP (cU n'.N n'.R hs ha) λws q hw hq il=>?_
  refine i8 af ?_;clear af;intro hsm af
  have hmem:(ax,listOf ws.toArray q)∈xs++aB:=ay _ (bD hq)
  refine LCg.CompSrc.ledger C.hh n'.F n'.NX hmem (by rw[bT];exact eH hsm hw) λg=>?_
  have fz0:(aT.set j SO.fz)[j]? =some .fz:=by
   rw[bc]
   have:j<aT.length:=rV hs
   simp[this]
  have:=goU I C ac (sc:=sc) (loc:=loc) (G:=ghost G ax (listOf ws.toArray q)) (ρ₀:=adr aB) (its:=ws.toArray) (lo:=listOf ws.toArray q) (s:={s with heap:=g,toks:=aU}) (mm:=mm) (xs:=xs) hf ha (by unfold ghost;rw[if_pos rfl]) ⟨rfl,q,rfl⟩
   (Fin:=LCg.FinE aY L.a mm {s with heap:=g,toks:=aU} Q) (λaq st2 ys aJ h2 x2 R2 off2 fz2 hy=>fin (s₁:={s with heap:=h',toks:=aU}) rfl rfl rfl xt n' ha hw (λy hy=>hy) aq st2 ys aJ h2 x2 R2 off2 fz2 hy g)
   vs ws 0 _ [] [] aB (Tr.wp_bind af) .rfl' hw (by simp) trivial (dL n'.R hq) n'.off fz0 n'.V
  simpa using this
 |some c=>
  refine LCt.ListComp_T n.F hcl hcell hk ah hlx (I.E fn st loc it C (Tr.wp_bind h) n λv aT u aB h' aU af xt n' hv=>?_) (dB hb.2 _)
  simp only at af
  refine qC af ?_;clear af;intro j ez0 af;replace hv:=ez0▸hv
  refine b7 hv λax ha z1=>?_;clear hv;subst z1
  refine wZ af ?_;clear af;intro vs hs af
  refine fP (cU n'.N n'.R hs ha) λws q hw hq il=>?_
  refine i8 af ?_;clear af;intro hsm af
  have hmem:(ax,listOf ws.toArray q)∈xs++aB:=ay _ (bD hq)
  refine LCt.CompSrcT.ledger C.hh n'.F n'.NX hmem (by rw[bT];exact eH hsm hw) λg=>?_
  have fz0:(aT.set j SO.fz)[j]? =some .fz:=by
   rw[bc]
   have:j<aT.length:=rV hs
   simp[this]
  have:=XK I C ac (sc:=sc) (loc:=loc) (G:=ghost G ax (listOf ws.toArray q)) (ρ₀:=adr aB) (its:=ws.toArray) (lo:=listOf ws.toArray q) (s:={s with heap:=g,toks:=aU}) (mm:=mm) (xs:=xs) hf ha (by unfold ghost;rw[if_pos rfl]) ⟨rfl,q,rfl⟩
   (Fin:=LCg.FinE aY L.a mm {s with heap:=g,toks:=aU} Q) (λaq st2 ys aJ h2 x2 R2 off2 fz2 hy=>fin (s₁:={s with heap:=h',toks:=aU}) rfl rfl rfl xt n' ha hw (λy hy=>hy) aq st2 ys aJ h2 x2 R2 off2 fz2 hy g)
   vs ws 0 _ [] [] aB (Tr.wp_bind af) .rfl' hw (by simp) trivial (dL n'.R hq) n'.off fz0 n'.V
  simpa using this
end
section
variable {w:World} {prog:Program} {ih:Ih} {tb:Tb} (TB:TbOk w tb) (KO:eZ w tb) (I:IhOk w prog ih)
include I in
theorem aCU {fn:Fn} {st:List SO} {loc:Loc} {y:Str} {py:Pos} {elt:Expr} {gens:List Comprehension} {sc:PySem.Scope} {cp pos:Pos}:SS w prog fn st loc (RA ih fn st loc y py elt gens sc cp) (exec (.Assign [.Name y py] (.ListComp elt gens sc cp) pos)):=by
 intro A outer aZ base aY L p loose aC mg mb C hcs0 φ h s mm G xs aA Q E PE n k
 unfold RA at h
 refine mB2 h ?_ ?_<;>clear h
 rotate_left
 ·intro _ h;refine mz6 h ?_;clear h;intro hlk h
  rw[dH] at hlk
  refine wpAny_Assign_Name (aAR I C (Tr.wp_bind h) n λz aT u aB h' aU af xt n' hv=>?_) ?_
  ·refine b7 (eP (Tr.wp_bind af)) λc hc3 hφ3=>?_
   exact gA hcs0 C.hk (C.c0 hcs0) n' hv hc3 λaV aJ h2 aX x2 n2=>k .next c.1 c.2 .next aV aJ h2 aX hφ3 (xt.trans x2) n2 rfl
  ·unfold swapsWith
   have hky:(fn.env L).kindOf y=some .cell:=by rw[Fn.env0 hcs0];exact hlk
   simp only[hky]
   rw[show(some NameKind.cell==some NameKind.local)=false from rfl]
   simp
 intro hsw h
 unfold vS at hsw
 simp only[bG,Bool.not_eq_true'] at hsw
 obtain⟨z1,sw3⟩:=hsw
 obtain⟨sw1,sw2⟩:=z1
 have hswaps:∀{gens:List Comprehension} {l:Nat},swapsWith (.ListComp elt gens sc cp) (some (.Name y py)) l (fn.env L)=pure true:=by
  intro gens l
  have hly:(fn.env L).kindOf y=some .local:=by rw[Fn.env0 hcs0];exact jW sw1 L
  have hbk:(fn.env L).blockKind=.function:=by
   rw[Fn.env0 hcs0]
   show(if fn.scope.kind.isAnnotationScope then ScopeKind.function else fn.scope.kind)=.function
   rw[C.hk];rfl
  have hline:py.line=cp.line:=bg sw2
  have hany:(sc.names.any λx=>match x with|(n,k)=>n==y&&(k==NameKind.local||k==NameKind.cell))=false:=by
   rw[<-sw3]
   congr 1
   funext q
   obtain⟨a,b⟩:=q
   simp only[gB]
   cases b<;>rfl
  unfold swapsWith
  simp only[hbk,hly,hany,Expr.pos,hline]
  rw[show(cp.line==cp.line)=true from by simp]
  rfl
 have hloc:(fn.env L).locals=L.a:=by rw[Fn.env0 hcs0]
 have hky:(fn.env L).kindOf y=some .local:=by rw[Fn.env0 hcs0];exact jW sw1 L
 have hclass:((fn.env L).scope.kind==ScopeKind.class||(fn.env L).scope.kind==ScopeKind.module&&(fn.env L).locals !=(fn.env L).globals)=false:=by
  rw[Fn.env0 hcs0]
  show(fn.scope.kind==.class||fn.scope.kind==.module&&_)=false
  rw[C.hk];rfl
 replace h:=Tr.wp_bind h
 unfold nLc at h
 refine MF h ?_;clear h;intro ac h
 have hL:=C.c0 ac
 refine YQ h ?_;clear h;intro x it ct hg h
 refine i8 h ?_;clear h;intro hb h
 simp only[bG] at hb
 refine zO (eO hb.1) λhk hcell ah hlx=>?_
 refine MG h ?_;clear h;intro cl hf h
 have hcl:closureFor sc (fn.env L)=pure (j8 (fn.env L) sc.names []):=eM λq hq e=>by rw[Fn.env0 ac];exact(dN hL n.V hf).1 q hq e
 have fin:∀{s₁:Shared} {ax:Addr} {ws:List Value} {q:Nat} {vs:List SV} {j:Nat} {aT:List SO} {aB:List (Addr×Obj)} {φ2:List SV×List SO->Prop},s₁.gens=s.gens->s₁.drawn=s.drawn->s₁.os=s.os->Ext (adr aA) (adr aB)->Now w G aY L loc aT mm xs aB s₁.heap->
   (adr aB)[j]? =some ax->RVs (adr aB) vs ws->(∀z0,φ2 z0->(match gJ z0.2 j with|true=>Tr.ret (z0.1,z0.2.set j (.list vs))|false=>Tr.no).wp λz=>φ (Flo.next,z.2++[SO.list z.1],jG loc y (SV.obj z.2.length)))->
   ∀aq st2 ys aJ,φ2 (aq,st2)->Ext (adr aB) (adr aJ)->Rep w (ghost G ax (listOf ws.toArray q)) st2 aJ->(∀p∈xs,∀q∈aJ,p.1≠q.1)->st2[j]? =some .fz->RVs (adr aJ) aq ys->∀g,LCg.FinA aY L.a mm {s₁ with heap:=g} y Q ys (xs++aJ):=by
  intro s₁ ax ws q vs j aT aB φ2 e1 e2 e3 x0 n' ha hw hφ2 aq st2 ys aJ h2 x2 R2 off2 fz2 hy g
  intro D h3 tk3 F3 N3 o1
  have:=hφ2 _ h2
  have hz:gJ st2 j=true:=by unfold gJ;rw[fz2]
  simp only[hz] at this
  obtain⟨n3,r3⟩:=kA (loc:=loc) (loc':=jG loc y (.obj (st2.set j (.list vs)).length)) (mm:=mm) (news0:=aA) R2 (x2.get ha) fz2 (hw.ext x2) off2 n'.CX hy F3 N3 o1 (λz v' hz=>by
   rw[p8] at hz
   by_cases e:z=y
   ·rw[if_pos e] at hz
    replace hz:=oS hz;subst hz
    obtain⟨R3,_⟩:=jP R2 (so:=.list vs) (x2.get ha) fz2 ⟨ws,q,hw.ext x2,rfl⟩
    exact jQ ⟨.ref D,by rw[FL.lk0 hL,if_pos e],D,i4 R3,rfl⟩
   ·rw[if_neg e] at hz
    exact(((n'.V z v' hz).ext x2).ext ext_push).upd (by rw[FL.lk0 hL,FL.lk0 hL,if_neg e]))
  have:=k .next _ _ .next _ _ h3 tk3 this ((x0.trans x2).trans ext_push) n3 rfl
  obtain⟨hp,gn,dr,tk,os⟩:=s₁
  simp only at e1 e2 e3
  subst e1 e2 e3
  exact this
 obtain⟨px,rfl⟩:=fV hg
 cases ct with
 |none=>
  refine LCg.Assign_ListComp_U n.F hloc hswaps hcl hcell hk ah hlx hky hclass (I.E fn st loc it C (Tr.wp_bind h) n λv aT u aB h' aU af xt n' hv=>?_) (dB hb.2 _)
  simp only at af
  refine qC af ?_;clear af;intro j ez0 af;replace hv:=ez0▸hv
  refine b7 hv λax ha z1=>?_;clear hv;subst z1
  refine wZ af ?_;clear af;intro vs hs af
  refine fP (cU n'.N n'.R hs ha) λws q hw hq il=>?_
  refine i8 af ?_;clear af;intro hsm af
  have hmem:(ax,listOf ws.toArray q)∈xs++aB:=ay _ (bD hq)
  refine LCg.CompSrc.ledger C.hh n'.F n'.NX hmem (by rw[bT];exact eH hsm hw) λg=>?_
  have fz0:(aT.set j SO.fz)[j]? =some .fz:=by
   rw[bc]
   have:j<aT.length:=rV hs
   simp[this]
  have:=goU I C ac (sc:=sc) (loc:=loc) (G:=ghost G ax (listOf ws.toArray q)) (ρ₀:=adr aB) (its:=ws.toArray) (lo:=listOf ws.toArray q) (s:={s with heap:=g,toks:=aU}) (mm:=mm) (xs:=xs) hf ha (by unfold ghost;rw[if_pos rfl]) ⟨rfl,q,rfl⟩
   (Fin:=LCg.FinA aY L.a mm {s with heap:=g,toks:=aU} y Q) (λaq st2 ys aJ h2 x2 R2 off2 fz2 hy=>fin (s₁:={s with heap:=h',toks:=aU}) rfl rfl rfl xt n' ha hw (λz hz=>hz) aq st2 ys aJ h2 x2 R2 off2 fz2 hy g)
   vs ws 0 _ [] [] aB (Tr.wp_bind af) .rfl' hw (by simp) trivial (dL n'.R hq) n'.off fz0 n'.V
  simpa using this
 |some c=>
  refine LCt.Assign_ListComp_T n.F hloc hswaps hcl hcell hk ah hlx hky hclass (I.E fn st loc it C (Tr.wp_bind h) n λv aT u aB h' aU af xt n' hv=>?_) (dB hb.2 _)
  simp only at af
  refine qC af ?_;clear af;intro j ez0 af;rw[ez0] at hv
  refine b7 hv λax ha z1=>?_;clear hv;subst z1
  refine wZ af ?_;clear af;intro vs hs af
  refine fP (cU n'.N n'.R hs ha) λws q hw hq il=>?_
  refine i8 af ?_;clear af;intro hsm af
  have hmem:(ax,listOf ws.toArray q)∈xs++aB:=ay _ (bD hq)
  refine LCt.CompSrcT.ledger C.hh n'.F n'.NX hmem (by rw[bT];exact eH hsm hw) λg=>?_
  have fz0:(aT.set j SO.fz)[j]? =some .fz:=by
   rw[bc]
   have:j<aT.length:=rV hs
   simp[this]
  have:=XK I C ac (sc:=sc) (loc:=loc) (G:=ghost G ax (listOf ws.toArray q)) (ρ₀:=adr aB) (its:=ws.toArray) (lo:=listOf ws.toArray q) (s:={s with heap:=g,toks:=aU}) (mm:=mm) (xs:=xs) hf ha (by unfold ghost;rw[if_pos rfl]) ⟨rfl,q,rfl⟩
   (Fin:=LCg.FinA aY L.a mm {s with heap:=g,toks:=aU} y Q) (λaq st2 ys aJ h2 x2 R2 off2 fz2 hy=>fin (s₁:={s with heap:=h',toks:=aU}) rfl rfl rfl xt n' ha hw (λz hz=>hz) aq st2 ys aJ h2 x2 R2 off2 fz2 hy g)
   vs ws 0 _ [] [] aB (Tr.wp_bind af) .rfl' hw (by simp) trivial (dL n'.R hq) n'.off fz0 n'.V
  simpa using this
end
section
variable {w:World} {prog:Program} {ih:Ih} {tb:Tb} (TB:TbOk w tb) (KO:eZ w tb) (I:IhOk w prog ih)
noncomputable def PR (i:Expr):Option Expr:=match i with
 | .Slice lo hi step _=>match lo,hi,step with
  |none,some e,none=>some e
  |_,_,_=>none
 |_=>none
theorem yK {i e:Expr} (h:PR i=some e):∃p,i=.Slice none (some e) none p:=by
 cases i with
 |Slice lo hi step p=>cases lo with
  |some=>exact b5 h
  |none=>cases hi with
   |none=>exact b5 h
   |some=>cases step with
    |none=>exact⟨p,by rw[oS h]⟩
    |some=>exact b5 h
 |_=>exact b5 h
def nSl (ih:Ih) (fn:Fn) (st:List SO) (loc:Loc) (o i:Expr):Tr (SV×List SO):=match(kU o).isSome with
 |true=>match PR i with
  |some e=>(ih.E fn st loc o).bind λx=>(ih.E fn x.2 loc e).bind λy=>match x.1,y.1 with
   | .obj j,.int (.ofNat m)=>match y.2[j]? with
    |some (.list vs)=>match small vs&&Nat.ble m 1000 with
     |true=>.ret (.obj y.2.length,y.2++[.list (vs.take m)])
     |false=>.no
    |_=>.no
   |_,_=>.no
  |none=>.no
 |false=>.no
theorem D2:∀{us:List Value} (m:Nat),RVs ρ vs us->RVs ρ (vs.take m) (us.take m):=by
 induction vs with
 |nil=>intro us m h;rw[All2.nl h,List.take_nil,List.take_nil];exact trivial
 |cons v r ih=>
  intro us m h
  cases m with
  |zero=>exact trivial
  |succ m=>exact All2.cs h λu t e a b=>e▸⟨a,ih m b⟩
theorem rZ (ws:List Value) (m:Nat):(slicePick ws.toArray none (some (m:Int)) none).toList=ws.take m:=by
 rw[kmk_pick_nat _ (sliceBounds_plain none (some (m:Int)) ws.toArray.size)]
 show List.take ((max 0 (min (if (m:Int)<0 then(m:Int)+(ws.length:Int) else m) (ws.length:Int))).toNat) ws=_
 rw[if_neg (Int.not_lt.mpr (Int.natCast_nonneg m))]
 rcases Nat.le_total m ws.length with h|h
 ·rw[Int.min_eq_left (Int.ofNat_le.mpr h),Int.max_eq_right (Int.natCast_nonneg m)];rfl
 ·rw[Int.min_eq_right (Int.ofNat_le.mpr h),Int.max_eq_right (Int.natCast_nonneg _),List.take_of_length_le h];exact bj
include I in
theorem sSl {fn:Fn} {st:List SO} {loc:Loc} {o i:Expr} {pos:Pos}:SE w prog fn st loc (nSl ih fn st loc o i) (eval (.Subscript o i pos)):=by
 intro A outer aZ base aY L p loose aC mg mb C φ h s mm G xs aA Q E n k
 unfold nSl at h
 refine i8 h ?_;clear h;intro ho h
 refine mE1 h ?_;clear h;intro e he h
 obtain⟨sp,ei⟩:=yK he
 refine gS ho λoq eo=>?_
 rw[fX eo] at h ⊢
 rw[ei]
 clear ho he eo ei
 refine Subscript_ (I.E fn st loc _ C (Tr.wp_bind h) n λv aT u aB h' aU af x n' hv=>?_)
 refine wpAny_Slice (wpAny_pure ?_)
 refine I.E fn aT loc e C (Tr.wp_bind af) n' λv2 st2 u2 aJ h2 aX hφ2 x2 n2 hv2=>?_
 refine wpAny_pure ?_
 refine aBv hφ2 ?_;clear hφ2;intro j m ez0 ez1 hφ2;subst ez0 ez1
 refine b7 (hv.ext x2) λax ha z1=>?_;subst z1
 obtain⟨t,rfl⟩:=hv2
 refine wZ hφ2 ?_;clear hφ2;intro vs hs hφ2
 refine fP (cU n2.N n2.R hs ha) λws q hw hq il=>?_
 refine i8 hφ2 ?_;clear hφ2;intro hb hφ2
 simp only[bG] at hb
 refine kmk_slice_lit (s:={s with heap:=h2,toks:=aX}) n2.F n2.NX il .none (.int _ t) (rZ ws m) (λD h3 F3 N3 lt=>?_) rfl (λr=>rfl) (by rw[bT];exact eH hb.1 hw)
 refine jN (n2.push (so:=.list (vs.take m)) F3 N3 lt ⟨ws.take m,0,(D2 m hw).ext ext_push,rfl⟩) λn3 x3 r3=>?_
 exact k _ _ _ _ h3 aX hφ2 ((x.trans x2).trans x3) n3 r3
def o4 (fn:Fn) (x:Str):Bool:=match lk fn.scope.names x with
 |some .cell=>true
 |_=>false
def nTT (ih:Ih) (fn:Fn) (st:List SO) (loc:Loc) (a b:Str) (pa pb:Pos) (v:Expr):Tr (Flo×List SO×Loc):=match v with
 | .Tuple es _ _=>match o4 fn a||o4 fn b with
  |true=>(ih.E fn st loc v).bind λy=>match y.1 with
   | .obj i=>match y.2[i]? with
    |some (.tup [c,d])=>(xE (putN fn y.2 loc a c)).bind λq=>(xE (putN fn q.1 q.2 b d)).bind λz=>.ret (.next,z.1,z.2)
    |_=>.no
   |_=>.no
  |false=>.no
 |_=>.no
include I in
set_option backward.match.sparseCases true in
theorem sTT {fn:Fn} {st:List SO} {loc:Loc} {a b:Str} {v:Expr} {pa pb tp pos:Pos} {j:Nat}:SS w prog fn st loc (nTT ih fn st loc a b pa pb v) (exec (.Assign [.Tuple [.Name a pa,.Name b pb] j tp] v pos)):=by
 intro A outer aZ base aY L p loose aC mg mb C ac φ h s mm G xs aA Q E PE n k
 unfold nTT at h
 refine aBw h ?_;clear h;intro es jj tpp ez0 h;subst ez0
 refine i8 h ?_;clear h;intro hc h
 have hsw:swappedStores [.Tuple [.Name a pa,.Name b pb] j tp] (.Tuple es jj tpp) (fn.env L)=pure none:=by
  have hk:(fn.env L).kindOf a≠some .local\/(fn.env L).kindOf b≠some .local:=by
   rw[Fn.env0 ac]
   simp only[Bool.or_eq_true] at hc
   rcases hc with hc|hc
   ·left
    unfold o4 at hc
    refine YR hc ?_;clear hc;intro e hc
    rw[dH] at e
    have:(fn.fenv L).kindOf a=some .cell:=e
    rw[this];simp
   ·right
    unfold o4 at hc
    refine YR hc ?_;clear hc;intro e hc
    rw[dH] at e
    have:(fn.fenv L).kindOf b=some .cell:=e
    rw[this];simp
  unfold swappedStores
  simp only
  split
  ·rfl
  ·split
   ·rfl
   ·rename_i h1 h2
    have hlen:(([Expr.Name a pa,Expr.Name b pb].filterMap fun
      | .Name id pos=>if ((fn.env L).kindOf id==some .local&&pos.line==((([Expr.Name a pa,Expr.Name b pb]:List Expr).head?.map (·.pos.line)).getD 0))=true then some id else none
      |_=>none).length !=2)=true:=by
     rcases hk with hk|hk
     ·have:((fn.env L).kindOf a==some .local)=false:=by simpa using hk
      simp only[List.filterMap_cons,this,Bool.false_and,bW,if_false]
      split<;>simp
     ·have:((fn.env L).kindOf b==some .local)=false:=by simpa using hk
      simp only[List.filterMap_cons,this,Bool.false_and,bW,if_false]
      split<;>simp
    exact if_pos (Bool.or_eq_true_iff.mpr (Or.inl hlen))
 refine Assign_Tuple (I.E fn st loc _ C (Tr.wp_bind h) n λz aT u aB h' aU af x n' hv=>?_) rfl hsw
 refine qC af ?_;clear af;intro i ez0 af;subst ez0
 refine b7 hv λaa ha z1=>?_;clear hv;subst z1
 refine YK af ?_;clear af;intro c d hs af
 refine b7 (lK n'.N n'.R hs ha) λws hw it=>?_
 refine fP (fL hw) λc' d' z1 hc' hd'=>?_;rw[z1] at hw;rw[z1] at it
 refine unpackN_ n'.F n'.NX it C.hh rfl rfl λh2 F2 N2=>?_
 have n2:Now w G aY L loc aT mm xs aB h2:=⟨F2,N2,n'.CX,n'.off,n'.R,n'.V⟩
 refine b7 (eP (Tr.wp_bind af)) λq hq hφ2=>?_
 refine b7 (eP (Tr.wp_bind hφ2)) λy hy hφ3=>?_
 refine assignInOrder_cons (assign_Name (gA ac C.hk (C.c0 ac) n2 hc' hq λmm3 aK h3 tk3 x3 n3=>?_))
 refine assignInOrder_cons (assign_Name (gA ac C.hk (C.c0 ac) n3 (hd'.ext x3) hy λmm4 aL h4 tk4 x4 n4=>?_))
 exact assignInOrder_nil (k .next y.1 y.2 .next mm4 aL h4 tk4 hφ3 ((x.trans x3).trans x4) n4 rfl)
end
noncomputable def fl0:FL:=⟨0,[],none⟩
noncomputable def qL (fn:Fn):List Str->List SV->List SO->Loc->Option (List SO×Loc)
 |[],[],st,loc=>some (st,loc)
 |a::r,v::t,st,loc=>match putN fn st loc a v with
  |some q=>qL fn r t q.1 q.2
  |none=>none
 |_,_,_,_=>none
def nSw (ih:Ih) (fn:Fn) (st:List SO) (loc:Loc) (ts:List Expr) (v:Expr):Tr (Flo×List SO×Loc):=match pureOf (swappedStores ts v (fn.fenv fl0)) with
 |some (some names)=>match pureOf (swapsWithSole ts v 0 (fn.fenv fl0)) with
  |some false=>(ih.E fn st loc v).bind λy=>match y.1 with
   | .obj i=>match y.2[i]? with
    |some (.tup vs)=>match Nat.beq names.length vs.length with
     |true=>(xE (qL fn names.reverse vs.reverse y.2 loc)).bind λq=>.ret (.next,q.1,q.2)
     |false=>.no
    |_=>.no
   |_=>.no
  |_=>.no
 |_=>.no
def RL (ih:Ih) (fn:Fn) (st:List SO) (loc:Loc) (o i:Expr):Tr (SV×List SO):=match(LB o).isSome with
 |true=>match PR i with
  |some e=>(ih.E fn st loc o).bind λx=>(ih.E fn x.2 loc e).bind λy=>match x.1,y.1 with
   | .str s,.int m=>match Nat.ble s.cps.size 1000 with
    |true=>.ret (.str (Txt.slice s none (some m)),y.2)
    |false=>.no
   |_,_=>.no
  |none=>.no
 |false=>.no
section
variable {w:World} {prog:Program} {ih:Ih} {tb:Tb} (TB:TbOk w tb) (KO:eZ w tb) (I:IhOk w prog ih)
theorem nS (hk:fn.scope.kind=.function) (ac:fn.cs=none) (hL:L.c=none):∀{es:List Str} {vs:List SV} {st:List SO} {loc:Loc} {q:List SO×Loc},qL fn es vs st loc=some q->
  ∀{s:Shared} {mm:Str->Option Value} {aA:List (Addr×Obj)} {us:List Value},Now w G aY L loc st mm xs aA s.heap->RVs (adr aA) vs us->∀{Q:Unit->Shared->Prop},
  (∀aV aB h' aU,Ext (adr aA) (adr aB)->Now w G aY L q.2 q.1 aV xs aB h'->Q () {s with heap:=h',toks:=aU})->
  wpAny (model prog w) A (assignInOrder (es.map λn=>bindName (fn.env L) n) us) Q E s
 |[],[],st,loc,q,e,s,mm,aA,us,n,hv,Q,k=>by
  replace e:=oS e;replace k:=e.symm▸k
  exact assignInOrder_nil (k mm aA s.heap s.toks .rfl' n)
 |[],_::_,st,loc,q,e,s,mm,aA,us,n,hv,Q,k=>by exact b5 e
 |_::_,[],st,loc,q,e,s,mm,aA,us,n,hv,Q,k=>by exact b5 e
 |x::r,v::t,st,loc,q,e,s,mm,aA,us,n,hv,Q,k=>by
  cases us with
  |nil=>exact hv.elim
  |cons u us=>
   refine Q2 e ?_;clear e;intro q1 h1 e
   refine assignInOrder_cons (bindName_ (gA ac hk hL n hv.1 h1 λaw aI h' aU x1 n1=>?_))
   exact nS hk ac hL e n1 (hv.2.ext x1) λaQ aJ h2 aX x2 n2=>k aQ aJ h2 aX (x1.trans x2) n2
include I in
theorem sSw {fn:Fn} {st:List SO} {loc:Loc} {elts:List Expr} {j:Nat} {tp pos:Pos} {v:Expr}:SS w prog fn st loc (nSw ih fn st loc [.Tuple elts j tp] v) (exec (.Assign [.Tuple elts j tp] v pos)):=by
 intro A outer aZ base aY L p loose aC mg mb C ac φ h s mm G xs aA Q E PE n k
 unfold nSw at h
 refine aBx h ?_;clear h;intro names hn h
 refine aBy h ?_;clear h;intro hs0 h
 have hw:swappedStores [.Tuple elts j tp] v (fn.env L)=pure (some names):=by
  rw[Fn.env0 ac]
  exact of_pureOf hn
 have hsw:swapsWithSole [.Tuple elts j tp] v pos.line (fn.env L)=pure false:=by
  rw[Fn.env0 ac]
  have:=of_pureOf hs0
  exact this
 refine Assign_Tuple_swapped (names:=names) (I.E fn st loc v C (Tr.wp_bind h) n λz aT u aB h' aU af x n' hv=>?_) hsw hw
 refine qC af ?_;clear af;intro i ez0 af;subst ez0
 refine b7 hv λaa ha z1=>?_;clear hv;subst z1
 refine aBz af ?_;clear af;intro vs hs af
 refine b7 (lK n'.N n'.R hs ha) λws hw2 it=>?_
 refine i8 af ?_;clear af;intro hl af
 replace hl:=bg hl
 refine b7 (eP (Tr.wp_bind af)) λq hq hφ2=>?_
 refine unpackItemsN_ n'.F n'.NX it C.hh (by rw[hl,bT,hw2.len]) λh2 F2 N2=>?_
 have n2:Now w G aY L loc aT mm xs aB h2:=⟨F2,N2,n'.CX,n'.off,n'.R,n'.V⟩
 exact nS C.hk ac (C.c0 ac) hq n2 (yH hw2) λmm3 aK h3 tk3 x3 n3=>k .next q.1 q.2 .next mm3 aK h3 tk3 hφ2 (x.trans x3) n3 rfl
include I in
theorem aCY {fn:Fn} {st:List SO} {loc:Loc} {o i:Expr} {pos:Pos}:SE w prog fn st loc (RL ih fn st loc o i) (eval (.Subscript o i pos)):=by
 intro A outer aZ base aY L p loose aC mg mb C φ h s mm G xs aA Q E n k
 unfold RL at h
 refine i8 h ?_;clear h;intro ho h
 refine mE1 h ?_;clear h;intro e he h
 obtain⟨sp,ei⟩:=yK he
 refine gS ho λoq eo=>?_
 rw[sJ eo] at h ⊢
 rw[ei]
 clear ho he eo ei
 refine Subscript_ (I.E fn st loc _ C (Tr.wp_bind h) n λv aT u aB h' aU af x n' hv=>?_)
 refine wpAny_Slice (wpAny_pure ?_)
 refine I.E fn aT loc e C (Tr.wp_bind af) n' λv2 st2 u2 aJ h2 aX hφ2 x2 n2 hv2=>?_
 refine wpAny_pure ?_
 refine aC0 hφ2 ?_;clear hφ2;intro x1 m ez0 ez1 hφ2;subst ez0 ez1
 obtain⟨t,rfl⟩:=hv.ext x2
 obtain⟨t2,rfl⟩:=hv2
 refine i8 hφ2 ?_;clear hφ2;intro hb hφ2
 replace hb:=bA hb
 refine slice_strN_ns (s:={s with heap:=h2,toks:=aX}) n2.F n2.NX (λh3 t3 k3 F3 N3=>?_) (by with_unfolding_all rfl) (by intro _;with_unfolding_all rfl) (by show x1.cps.size<=_;rw[sizeLine_eq];omega)
 exact k _ _ _ aJ h3 k3 hφ2 (x.trans x2) (n2.ext F3 N3 n2.off n2.R .rfl') ⟨t3,rfl⟩
end
section
variable {w:World} {prog:Program} {A:Around} {E:Value->Shared->Prop} {s:Shared} {env:Env} {aY:Heap} {target:Expr} {body:List Stmt} {Q:Flow->Shared->Prop}
theorem oU {target:Expr} {I:Addr} {x l c:Int} {Q':Unit->Shared->Prop} {s':Shared} (hit:IsRangeIter s'.heap I x l c) (h:Q' () s'):
  wpAny (model prog w) A (letOwnedTupleGo target (.ref I) v) Q' E s':=by
 have ho:s'.heap.get? I=some _:=hit
 cases target<;>first
  |exact wpAny_pure h
  |(cases v<;>first
    |exact wpAny_pure h
    |(refine wpAny_bind (wpAny_load ho ?_)
      exact wpAny_pure h))
noncomputable def hO (n:Nat):List Itm:=(List.range n).map λi=>Itm.tok (λt=>.int ((i:Nat):Int) t)
theorem nU {r:Addr} {t u v:Tok} {n:Nat} {m₀:Str->Option Value} (hh:A.handled=none) (hr:IsRange s.heap r 0 (n:Int) 1 t u v) (hz:n<=1000) (F:Fr aY env.locals s.heap m₀) (N:News aY env.locals s.heap aA)
  (rest₀:∀I:Addr,(∀p∈aA,p.1<I)->ItemsRest prog w A E aY env target body Q s [(I,"range_iterator")] [] (hO n) m₀ aA):
  wpAny (model prog w) A (pyIter (.ref r)) (λit s₂=>TurnsAt prog w A aY env target body Q E it s₂) E s:=by
 have hn:Builtin.Range.rangeSize 0 (n:Int) 1=(n:Int):=by
  unfold Builtin.Range.rangeSize
  rcases Nat.eq_zero_or_pos n with e|e
  ·subst e;rfl
  ·simp;omega
 have hsm:Builtin.Range.small 0 (n:Int) 1=true:=by
  unfold Builtin.Range.small
  rw[hn]
  unfold Builtin.Range.rangeFitsLong
  simp only[bG,decide_eq_true_eq]
  refine⟨by omega,?_⟩
  rw[Bool.or_eq_true]
  right
  rw[if_pos (by decide)]
  simp only[bG,decide_eq_true_eq]
  omega
 refine wpAny_pyIter_range hr hsm ?_
 have W:Walks prog w A s.heap.objs.size [s.heap.objs.size] [s.heap.objs.size] n (λi v=>i<n/\∃t,v=.int (0+i*1) t)
   (λi h=>IsRangeIter h s.heap.objs.size (0+(i:Nat)*1) ((n:Int)-(i:Nat)) 1):=(Walks.range hh _ 0 1 n).bound
 refine ktu_core (tk0:=s.toks) (keep:=[]) (KTurns.ofWalks W λi v s Q E st q=>oU st q) (by unfold hO;simp) ?_ ?_ ?_ ?_ ?_ ?_ ?_ ?_ (F.push _) (λp hp=>⟨Heap.get?_push_of_some _ (N p hp).1,(N p hp).2⟩) trivial (rest₀ _ λp hp=>Heap.lt_size (N p hp).1)
 ·rintro i v h ⟨hi,t',rfl⟩
  refine⟨.tok (λt=>.int ((i:Nat):Int) t),?_,t',?_⟩
  ·unfold hO
   rw[bp,List.getElem?_range hi]
   rfl
  ·show Value.int _ _=Value.int _ _
   rw[Int.mul_one,Int.zero_add]
 ·intro i h st
  have aT:h.get? s.heap.objs.size=some _:=st
  exact⟨[(s.heap.objs.size,_)],⟨⟨rfl,rfl⟩,trivial⟩,λp hp=>by rw[bo.mp hp];exact aT⟩
 ·intro b hb
  have hb':b=s.heap.objs.size:=by simpa using hb
  rw[hb']
  exact⟨List.mem_cons_self ..,next_is_new F⟩
 ·intro b hb
  simpa using hb
 ·intro b hb
  have hb':b=s.heap.objs.size:=by simpa using hb
  exact .inl (by simp[hb'])
 ·intro hI
  have hb':env.locals=s.heap.objs.size:=by simpa using hI
  exact absurd F.ns.lt (hb'▸Nat.lt_irrefl _)
 ·intro p hp hI
  exact absurd (Heap.lt_size (N p hp).1) ((bo.mp hI)▸Nat.lt_irrefl _)
 ·show IsRangeIter _ _ _ _ _
  rw[hn]
  simpa using Heap.get?_push_size _ rfl
end
def fO (it:Expr):Option Expr:=match lR it with
 |some q=>match kU q.1 with
  |some n=>match seq n.1 "range"&&!p5 q.2 with
   |true=>some q.2
   |false=>none
  |none=>none
 |none=>none
def jE (tb:Tb) (names:List (Str×NameKind)):Bool:=match lk names "range" with
 |some .globalImplicit=>match lk tb.glob "range" with
  |none=>match lk tb.blt "range" with
   |some v=>match v with
    | .type t=>decide (t="range")
    |_=>false
   |none=>false
  |some _=>false
 |_=>false
noncomputable def xJ (m:Nat):List SI:=(List.range m).map λi=>.num ((i:Nat):Int)
def HA (tb:Tb) (ih:Ih) (fn:Fn) (st:List SO) (loc:Loc) (t it:Expr) (b:List Stmt):Tr (Flo×List SO×Loc):=match fO it with
 |some e=>match jE tb fn.scope.names with
  |true=>(ih.E fn st loc e).bind λy=>match y.1 with
   | .int (.ofNat m)=>match Nat.ble m 1000 with
    |true=>OC ih fn t b (λ_=>true) (xJ m) y.2 loc
    |false=>.no
   |_=>.no
  |false=>.no
 |none=>.no
section
variable {w:World} {prog:Program} {ih:Ih} {tb:Tb} (TB:TbOk w tb) (KO:eZ w tb) (I:IhOk w prog ih)
theorem C6 (m:Nat):SIRs ρ (xJ m) (hO m):=by
 delta xJ hO
 generalize List.range m=l
 induction l with
 |nil=>trivial
 |cons a r ih=>exact⟨rfl,ih⟩
theorem hU {it e:Expr} (h:fO it=some e):∃p p2,it=.Call (.Name "range" p) [e] [] p2/\∀v q,e≠.Starred v q:=by
 unfold fO at h
 cases e1:lR it with
 |none=>rw[e1] at h;exact b5 h
 |some c=>
  rw[e1] at h
  dsimp only at h
  cases e2:kU c.1 with
  |none=>rw[e2] at h;exact b5 h
  |some n=>
   rw[e2] at h
   refine jM (d0:=seq n.1 "range"&&!p5 c.2) h λg h=>?_
   obtain⟨g1,g2⟩:=rJ g
   obtain⟨cp,e3⟩:=pL e1
   rw[<-oS h]
   exact⟨n.2,cp,by rw[e3,fX e2,dI g1],λv p q=>by rw[q] at g2;exact d9 g2⟩
include TB I in
theorem jH (ac:fn.cs=none) {it e:Expr} (hr:fO it=some e) (ho:jE tb fn.scope.names=true)
  (C:Fx w fn A outer aZ base aY L p loose aC mg mb) {φ:SV×List SO->Prop} (h:(ih.E fn st loc e).wp φ) {Q:Value->Shared->Prop} (n:Now w G aY L loc st mm xs aA s.heap)
  (k:∀v aT m tk aB h' aU,φ (v,aT)->Ext (adr aA) (adr aB)->Now w G aY L loc aT mm xs aB h'->RV (adr aB) v (.int m tk)->∀(r:Addr) (t u:Tok),IsRange h' r 0 m 1 t tk u->Q (.ref r) {s with heap:=h',toks:=aU})
  (kk:∀v aT,φ (v,aT)->∃m,v=.int m):wpAny (model prog w) A (eval it (fn.env L)) Q E s:=by
 refine iJ (hU hr) λp1 p2 z1 hne=>?_;subst z1
 unfold jE at ho
 refine YM ho ?_;clear ho;intro hk ho
 rw[dH] at hk
 refine YN ho ?_;clear ho;intro hg ho
 refine Q1 ho ?_;clear ho;intro v hbl ho
 refine YO ho ?_;clear ho;intro tn ez0 ho;rw[ez0] at hbl
 have htn:tn="range":=by simpa using ho
 rw[htn] at ho;rw[htn] at hbl
 refine jN (TB.blt _ (lA hbl)) λh1 h2 h3=>?_
 have e0:=Fn.env0 ac L
 rw[e0]
 refine Call_ (nameX_B n.F C.X (topRead_of C.T) h1 h2 h3 ?_ C.hk hk (by decide))
 refine PyProof.Rows.callWith_type1 (he:=cR hne) (args_cons (he:=cR hne) ?_)
 rw[<-e0]
 refine I.E fn st loc _ C h n λv aT u aB h' aU af x n' hv=>args_nil ?_
 obtain⟨m,rfl⟩:=kk v aT af
 obtain⟨tk,rfl⟩:=hv
 refine call_range_1 ?_
 refine k _ aT m tk aB _ _ af x (n'.ext (n'.F.push _) (λq hq=>News.push n'.F n'.NX _ rfl q (.tail _ hq)) n'.off n'.R .rfl') ⟨tk,rfl⟩ _ _ _ (IsRange.new ..)
include TB I in
theorem TK {fn:Fn} {st:List SO} {loc:Loc} {t it:Expr} {b:List Stmt} {pos:Pos}:SS w prog fn st loc (HA tb ih fn st loc t it b) (exec (.For t it b [] pos)):=by
 intro A outer aZ base aY L p loose aC mg mb C ac φ h s mm G xs aA Q E PE n k
 have e0:=Fn.env0 ac L
 have PE':PassesOwn (model prog w) A (fn.fenv L) E:=by rw[<-e0];exact PE
 unfold HA at h
 refine YS h ?_;clear h;intro e hr h
 refine i8 h ?_;clear h;intro ho h
 have hpl:d5 it=true:=by
  refine iJ (hU hr) λp1 p2 z1 _=>?_;subst z1
  rfl
 rw[e0]
 refine For_turns (env:=fn.fenv L) n.F ?_ (dB hpl _) PE'
 rw[show eval it (fn.fenv L)=eval it (fn.env L) from by rw[e0]]
 refine jH TB I ac hr ho C (Tr.wp_bind h) n (λv aT m tk aB h' aU af x n' hv r tr ur hIs=>?_) λv aT af=>?_
 ·cases v with
  |int m0=>
   obtain⟨tk0,hv⟩:=hv
   cases hv
   refine YT af ?_;clear af;intro m1 hm af
   cases hm
   refine i8 af ?_;clear af;intro hb af
   replace hb:=bA hb
   refine nU C.hh hIs hb n'.F n'.NX λI₀ lt=>?_
   refine qQ I C ac PE (G:=G) (fz:=λ_=>true) (ρ₀:=adr aB) (keep:=[]) (λ_ _ _ _ _=>trivial) ?_ _ af .rfl' (C6 m1) n'.R n'.off n'.V ?_
   ·intro f st2 loc2 fl aQ aJ h2 aX hφ2 x2 n2 _ hfl
    exact k f _ loc2 fl aQ aJ h2 aX hφ2 (x.trans x2) n2 hfl
   ·intro p hp q hq
    simp at hq
    subst hq
    exact Nat.ne_of_lt (lt p hp)
  |_=>exact af.elim
 ·cases v with
  |int m0=>exact⟨m0,rfl⟩
  |_=>exact af.elim
end
noncomputable def Q9 (ih:Ih) (fn:Fn) (x:Str) (cl:Loc) (elt:Expr):Nat->Nat->List SO->List SV->Tr (List SV×List SO)
 |0,_,st,aq=>.ret (aq,st)
 |k+1,i,st,aq=>(ih.E fn st ((x,.int ((i:Nat):Int))::cl) elt).bind λy=>Q9 ih fn x cl elt k (i+1) y.2 (aq++[y.1])
def RD (tb:Tb) (ih:Ih) (fn:Fn) (st:List SO) (loc:Loc) (elt:Expr) (gens:List Comprehension) (sc:PySem.Scope):Tr (SV×List SO):=match fn.cs with
 |some _=>.no
 |none=>match gL gens with
  |some (x,it,none)=>match fO it with
   |some e=>match jE tb fn.scope.names&&fF sc x with
    |true=>match dE fn loc sc.names with
     |some cl=>(ih.E fn st loc e).bind λz=>match z.1 with
      | .int (.ofNat m)=>match Nat.ble m 1000 with
       |true=>(Q9 ih (fn.blk sc) x cl elt m 0 z.2 []).bind λy=>.ret (.obj y.2.length,y.2++[.list y.1])
       |false=>.no
      |_=>.no
     |none=>.no
    |false=>.no
   |none=>.no
  |_=>.no
section
variable {w:World} {prog:Program} {ih:Ih} {tb:Tb} (TB:TbOk w tb) (KO:eZ w tb) (I:IhOk w prog ih)
include I in
theorem XJ {sc:PySem.Scope} {x:Str} {cl:Loc} {elt:Expr}
  (C:Fx w fn A outer aZ base aY L p loose aC mg mb) (ac:fn.cs=none) {φ:List SV×List SO->Prop} {ρ₀:List Addr}
  (hf:dE fn loc sc.names=some cl) {Fin:List Value->List (Addr×Obj)->Prop}
  (fin:∀aq st ys aA,φ (aq,st)->Ext ρ₀ (adr aA)->Rep w G st aA->(∀p∈xs,∀q∈aA,p.1≠q.1)->RVs (adr aA) aq ys->Fin ys (xs++aA)):
  ∀(k i:Nat) (st:List SO) (aq:List SV) (ys:List Value) (aA:List (Addr×Obj)),(Q9 ih (fn.blk sc) x cl elt k i st aq).wp φ->Ext ρ₀ (adr aA)->
   RVs (adr aA) aq ys->Rep w G st aA->(∀p∈xs,∀q∈aA,p.1≠q.1)->(∀x v,lk loc x=some v->VL L mm (adr aA) x v)->
   LCg.CompRest prog w A aY L.a mm (fn.env L) elt x sc (j8 (fn.env L) sc.names []) s (λ_=>True) (λi v=>∃t,v=.int (0+(i:Int)) t) Fin k i ys (xs++aA)
 |0,i,st,aq,ys,aA,h,x0,hy,R,off,V=>LCg.CompRest.zero (fin aq st ys aA h x0 R off hy)
 |k+1,i,st,aq,ys,aA,h,x0,hy,R,off,V=>by
  have hL:=C.c0 ac
  refine LCg.CompRest.succ λv0 I₀ oI Ca oC D m2 h2 aX E' hi hC hx F N off3 ne=>?_
  obtain⟨t0,rfl⟩:=hi
  obtain⟨C',e'⟩:=lT (sc:=sc) C ac ⟨Ca,oC,m2,j8 (fn.env L) sc.names [],hC⟩
  have hxs:∀p∈xs,p.1≠I₀/\p.1≠Ca/\p.1≠D:=λp hp=>off3.mem p (bK _ hp)
  have hcells:(fn.env L).cells=L.cl:=by rw[Fn.env0 ac]
  have n1:Now w G aY ⟨L.a,L.cl,some ⟨Ca,oC,m2,j8 (fn.env L) sc.names [],hC⟩⟩ ((x,.int ((i:Nat):Int))::cl) st mm ((I₀,oI)::(Ca,oC)::(D,LCg.lst ys)::xs) aA h2:=pN F N off3 off R (t8 hL V hf hcells hC hx ⟨t0,by rw[Int.zero_add]⟩)
  have sub:∀{aB:List (Addr×Obj)},∀p∈(I₀,oI)::(Ca,oC)::(D,LCg.lst ys)::(xs++aB),p∈((I₀,oI)::(Ca,oC)::(D,LCg.lst ys)::xs)++aB:=λp hp=>hp
  rw[<-e']
  refine I.E _ st _ elt C' (Tr.wp_bind h) n1 λy st4 u4 aL h4 tk4 hφ4 x4 n4 hu4=>?_
  have off5:∀p∈xs,∀q∈aL,p.1≠q.1:=λp hp=>n4.off p (.tail _ (.tail _ (.tail _ hp)))
  refine LCg.CompEnd.intro n4.F n4.NX (xs++aL) sub (kE (l:=[]) hxs n4.off) trivial ?_
  exact XJ C ac hf fin k (i+1) st4 (aq++[y]) (ys++[u4]) aL hφ4 (x0.trans x4) ((hy.ext x4).app ⟨hu4,trivial⟩) n4.R off5 λy v hy=>(V y v hy).ext x4
include TB I in
theorem aCW {fn:Fn} {st:List SO} {loc:Loc} {elt:Expr} {gens:List Comprehension} {sc:PySem.Scope} {cp:Pos}:SE w prog fn st loc (RD tb ih fn st loc elt gens sc) (eval (.ListComp elt gens sc cp)):=by
 intro A outer aZ base aY L p loose aC mg mb C φ h s mm G xs aA Q E n k
 unfold RD at h
 refine MF h ?_;clear h;intro ac h
 have hL:=C.c0 ac
 refine aC1 h ?_;clear h;intro x it hg h
 refine YS h ?_;clear h;intro e hr h
 refine i8 h ?_;clear h;intro hb h
 simp only[bG] at hb
 refine zO (eO hb.2) λhk hcell ah hlx=>?_
 refine MG h ?_;clear h;intro cl hf h
 have hcl:closureFor sc (fn.env L)=pure (j8 (fn.env L) sc.names []):=eM λq hq e=>by rw[Fn.env0 ac];exact(dN hL n.V hf).1 q hq e
 have hpl:d5 it=true:=by
  refine iJ (hU hr) λp1 p2 z1 _=>?_;subst z1
  rfl
 obtain⟨px,rfl⟩:=fV hg
 refine LCg.ListComp_U n.F hcl hcell hk ah hlx (jH TB I ac hr hb.1 C (Tr.wp_bind h) n (λv aT m tk aB h' aU af xt n' hv r tr ur hIs=>?_) λv aT af=>?_) (dB hpl _)
 ·cases v with
  |int m0=>
   obtain⟨tk0,hv⟩:=hv
   cases hv
   refine YT af ?_;clear af;intro m1 hm af
   cases hm
   refine i8 af ?_;clear af;intro hb af
   replace hb:=bA hb
   have hn:Builtin.Range.rangeSize 0 (m1:Int) 1=(m1:Int):=by
    unfold Builtin.Range.rangeSize
    rcases Nat.eq_zero_or_pos m1 with e|e
    ·subst e;rfl
    ·simp;omega
   have hsm:Builtin.Range.small 0 (m1:Int) 1=true:=by
    unfold Builtin.Range.small
    rw[hn]
    unfold Builtin.Range.rangeFitsLong
    simp only[bG,decide_eq_true_eq]
    refine⟨by omega,?_⟩
    rw[Bool.or_eq_true]
    right
    rw[if_pos (by decide)]
    simp only[bG,decide_eq_true_eq]
    omega
   refine LCg.CompSrc.range C.hh n'.F n'.NX hIs hsm hn (by rw[sizeLine_eq];omega) λg=>?_
   refine XJ I C ac (sc:=sc) (loc:=loc) (G:=G) (ρ₀:=adr aB) (xs:=xs) hf (λaq st2 ys aJ h2 x2 R2 off2 hy=>?_) m1 0 _ [] [] aB (Tr.wp_bind af) .rfl' trivial n'.R n'.off n'.V
   intro D h3 tk3 F3 N3 o1
   have lt:∀p∈xs++aJ,p.1≠D:=pC o1
   have R3:=R2.push (so:=.list aq) (λp hp=>lt p (ay _ hp)) ⟨ys,ys.length,hy.ext ext_push,rfl⟩
   refine k _ _ (.ref D) (aJ++[(D,LCg.lst ys)]) h3 tk3 h2 ((xt.trans x2).trans ext_push) ⟨F3,λp hp=>N3 p ?_,n.CX,λp hp z hz=>?_,R3,λx v hx=>((n'.V x v hx).ext x2).ext ext_push⟩ ⟨D,i4 R2,rfl⟩
   ·rw[<-bB] at hp
    rcases bN.mp hp with e|e
    ·exact .tail _ e
    ·simp at e;subst e;exact .head _
   ·rcases bN.mp hz with e|e
    ·exact off2 p hp z e
    ·simp at e;subst e;exact lt p (bK _ hp)
  |_=>exact af.elim
 ·cases v with
  |int m0=>exact⟨m0,rfl⟩
  |_=>exact af.elim
end
noncomputable def HY (st:List SO) (v:SV):Option (SV×SV):=match v with
 | .obj i=>match st[i]? with
  |some (.tup [a,b])=>some (a,b)
  |_=>none
 |_=>none
noncomputable def Q8 (ih:Ih) (fn:Fn) (x x₂:Str) (cl:Loc) (elt:Expr) (j:Nat):List SV->List SO->List SV->Tr (List SV×List SO)
 |[],st,aq=>.ret (aq,st)
 |v::r,st,aq=>match HY st v with
  |some ab=>(ih.E fn st ((x,ab.1)::(x₂,ab.2)::cl) elt).bind λy=>match gJ y.2 j with
   |true=>Q8 ih fn x x₂ cl elt j r y.2 (aq++[y.1])
   |false=>.no
  |none=>.no
noncomputable def EA (e:Expr):Option (Expr×Expr):=match e with
 | .Tuple es _ _=>match es with
  |[a,b]=>some (a,b)
  |_=>none
 |_=>none
theorem AK {e:Expr} {q:Expr×Expr} (h:EA e=some q):∃k o,e=.Tuple [q.1,q.2] k o:=by
 cases e with
 |Tuple es k o=>cases es with
  |nil=>exact b5 h
  |cons a r=>cases r with
   |nil=>exact b5 h
   |cons b r=>cases r with
    |cons=>exact b5 h
    |nil=>exact⟨k,o,by rw[<-oS h]⟩
 |_=>exact b5 h
def D9 (e:Expr):Option (Str×Str):=(EA e).bind λq=>(kU q.1).bind λx=>(kU q.2).bind λy=>some (x.1,y.1)
theorem AJ {e:Expr} {q:Str×Str} (h:D9 e=some q):∃a b k o,e=.Tuple [.Name q.1 a,.Name q.2 b] k o:=by
 refine b7 (Option.bind_eq_some_iff.mp h) λt e1 h=>?_
 refine b7 (Option.bind_eq_some_iff.mp h) λx e2 h=>?_
 refine b7 (Option.bind_eq_some_iff.mp h) λy e3 h=>?_
 obtain⟨k,o,e4⟩:=AK e1
 rw[<-oS h]
 exact⟨x.2,y.2,k,o,by rw[e4,fX e2,fX e3]⟩
def mJ (gens:List Comprehension):Option (Str×Str×Expr):=match gens with
 |[g]=>match D9 g.target with
  |some p=>match decide (g.is_async=0) with
   |true=>match g.ifs with
    |[]=>some (p.1,p.2,g.iter)
    |_::_=>none
   |false=>none
  |none=>none
 |_=>none
theorem xF {gens:List Comprehension} {x y:Str} {it:Expr} (h:mJ gens=some (x,y,it)):∃p q k o,gens=[⟨.Tuple [.Name x p,.Name y q] k o,it,[],0⟩]:=by
 cases gens with
 |nil=>exact b5 h
 |cons g r=>cases r with
  |cons _ _=>exact b5 h
  |nil=>
   unfold mJ at h
   refine XX h ?_;clear h;intro z hz h
   refine XW h ?_;clear h;intro ha h
   obtain⟨t,i,fs,a⟩:=g
   replace ha:=of_decide_eq_true ha
   subst ha
   cases fs with
   |cons _ _=>exact b5 h
   |nil=>
    refine q41 (AJ hz) λp q k o e=>?_
    cases h
    exact⟨p,q,k,o,e▸rfl⟩
def RC (ih:Ih) (fn:Fn) (st:List SO) (loc:Loc) (elt:Expr) (gens:List Comprehension) (sc:PySem.Scope):Tr (SV×List SO):=match fn.cs with
 |some _=>.no
 |none=>match mJ gens with
  |some (x,x₂,it)=>match fF sc x&&uT sc.names x₂&&!seq x x₂&&d5 it with
   |true=>match dE fn loc sc.names with
    |some cl=>(ih.E fn st loc it).bind λz=>match z.1 with
     | .obj j=>match z.2[j]? with
      |some (.list vs)=>match small vs with
       |true=>(Q8 ih (fn.blk sc) x x₂ cl elt j vs (z.2.set j .fz) []).bind λy=>match gJ y.2 j with
        |true=>.ret (.obj (y.2.set j (.list vs)).length,y.2.set j (.list vs)++[.list y.1])
        |false=>.no
       |false=>.no
      |_=>.no
     |_=>.no
    |none=>.no
   |false=>.no
  |none=>.no
section
variable {w:World} {prog:Program} {ih:Ih} {tb:Tb} (TB:TbOk w tb) (KO:eZ w tb) (I:IhOk w prog ih)
include I in
theorem goP {sc:PySem.Scope} {x x₂:Str} {cl:Loc} {elt:Expr} {j:Nat}
  (C:Fx w fn A outer aZ base aY L p loose aC mg mb) (ac:fn.cs=none) {φ:List SV×List SO->Prop} {ρ₀:List Addr} {ax:Addr} {lo:Obj} {its:Array Value}
  (hf:dE fn loc sc.names=some cl) (hax:ρ₀[j]? =some ax) (hG:G ax=lo) (hlo:lo.cls=.type "list"/\∃n,lo.data=.seq its n) {Fin:List Value->List (Addr×Obj)->Prop}
  (fin:∀aq st ys aA,φ (aq,st)->Ext ρ₀ (adr aA)->Rep w G st aA->(∀p∈xs,∀q∈aA,p.1≠q.1)->st[j]? =some .fz->RVs (adr aA) aq ys->Fin ys (xs++aA)):
  ∀(svs:List SV) (us:List Value) (i:Nat) (st:List SO) (aq:List SV) (ys:List Value) (aA:List (Addr×Obj)),(Q8 ih (fn.blk sc) x x₂ cl elt j svs st aq).wp φ->Ext ρ₀ (adr aA)->RVs (adr aA) svs us->its.toList.drop i=us->
   RVs (adr aA) aq ys->Rep w G st aA->(∀p∈xs,∀q∈aA,p.1≠q.1)->st[j]? =some .fz->(∀x v,lk loc x=some v->VL L mm (adr aA) x v)->
   LCp.CompRestP prog w A aY L.a mm (fn.env L) elt x x₂ sc (j8 (fn.env L) sc.names []) s (LCg.SrcAt aY ax its) (λi v=>its[i]? =some v) Fin us.length i ys (xs++aA)
 |[],us,i,st,aq,ys,aA,h,x0,hv,hd,hy,R,off,fz,V=>by
  cases us with
  |cons=>exact hv.elim
  |nil=>exact LCp.CompRestP.zero (fin aq st ys aA h x0 R off fz hy)
 |v::r,us,i,st,aq,ys,aA,h,x0,hv,hd,hy,R,off,fz,V=>by
  cases us with
  |nil=>exact hv.elim
  |cons u t=>
   have hL:=C.c0 ac
   refine LCp.CompRestP.succ λv0 hi=>?_
   obtain⟨hu,hd'⟩:=sN hd hi
   replace hv:=hu▸hv
   obtain⟨hv1,hv2⟩:=hv
   refine aC2 h ?_;clear h;intro ab hab h
   obtain⟨a,b⟩:=ab
   unfold HY at hab
   refine ME hab ?_;clear hab;intro k ez0 hab;rw[ez0] at hv1
   refine aC3 hab ?_;clear hab;intro a' b' hs hab
   cases hab
   refine b7 hv1 λd hdd z1=>?_;clear hv1;subst z1
   refine b7 (R.at_ k _ hs) λq hq z1=>?_
   refine iJ z1 λws nt hw ho=>?_;clear z1
   refine fP (fL hw) λa1 b1 z1 ha1 hb1=>?_;rw[z1] at hw;rw[z1] at ho
   have e2:q.1=d:=fH hq hdd
   refine⟨d,q.2,a1,b1,nt,rfl,ay _ (by rw[<-e2];exact bD hq),by rw[ho],by rw[ho],?_⟩
   intro I₀ oI Ca oC D m2 h2 aX E' hC hx hx2 F N off3 ne
   obtain⟨C',e'⟩:=lT (sc:=sc) C ac ⟨Ca,oC,m2,j8 (fn.env L) sc.names [],hC⟩
   have hxs:∀p∈xs,p.1≠I₀/\p.1≠Ca/\p.1≠D:=λp hp=>off3.mem p (bK _ hp)
   have hcells:(fn.env L).cells=L.cl:=by rw[Fn.env0 ac]
   have V2:∀y z,lk ((x,a)::(x₂,b)::cl) y=some z->VL ⟨L.a,L.cl,some ⟨Ca,oC,m2,j8 (fn.env L) sc.names [],hC⟩⟩ mm (adr aA) y z:=by
    intro y z hy
    unfold lk at hy
    cases g:seq x y with
    |true=>
     rw[g] at hy
     cases hy
     have:=dI g
     subst this
     exact jQ ⟨a1,hx,ha1⟩
    |false=>
     rw[g] at hy
     exact t8 hL V hf hcells hC hx2 hb1 y z hy
   have n1:Now w G aY ⟨L.a,L.cl,some ⟨Ca,oC,m2,j8 (fn.env L) sc.names [],hC⟩⟩ ((x,a)::(x₂,b)::cl) st mm ((I₀,oI)::(Ca,oC)::(D,LCg.lst ys)::xs) aA h2:=pN F N off3 off R (V2)
   have src:∀{aT:List SO} {aB:List (Addr×Obj)},Rep w G aT aB->aT[j]? =some .fz->Ext (adr aA) (adr aB)->LCg.SrcAt aY ax its (xs++aB):=λR' fz' x'=>xS R' fz' ((x0.trans x').get hax) hG hlo
   have sub:∀{aB:List (Addr×Obj)},∀p∈(I₀,oI)::(Ca,oC)::(D,LCg.lst ys)::(xs++aB),p∈((I₀,oI)::(Ca,oC)::(D,LCg.lst ys)::xs)++aB:=λp hp=>hp
   rw[<-e']
   refine I.E _ st _ elt C' (Tr.wp_bind h) n1 λy st4 u4 aL h4 tk4 hφ4 x4 n4 hu4=>?_
   simp only at hφ4
   refine i8 hφ4 ?_;clear hφ4;intro hz4 hφ4
   have fz4:=i6 hz4
   have off5:∀p∈xs,∀q∈aL,p.1≠q.1:=λp hp=>n4.off p (.tail _ (.tail _ (.tail _ hp)))
   refine LCg.CompEnd.intro n4.F n4.NX (xs++aL) sub (kE (l:=[]) hxs n4.off) (src n4.R fz4 x4) ?_
   exact goP C ac hf hax hG hlo fin r t (i+1) st4 (aq++[y]) (ys++[u4]) aL hφ4 (x0.trans x4) (hv2.ext x4) hd' ((hy.ext x4).app ⟨hu4,trivial⟩) n4.R off5 fz4 λy v hy=>(V y v hy).ext x4
include I in
theorem aCV {fn:Fn} {st:List SO} {loc:Loc} {elt:Expr} {gens:List Comprehension} {sc:PySem.Scope} {cp:Pos}:SE w prog fn st loc (RC ih fn st loc elt gens sc) (eval (.ListComp elt gens sc cp)):=by
 intro A outer aZ base aY L p loose aC mg mb C φ h s mm G xs aA Q E n k
 unfold RC at h
 refine MF h ?_;clear h;intro ac h
 have hL:=C.c0 ac
 refine XY h ?_;clear h;intro x x₂ it hg h
 refine i8 h ?_;clear h;intro hb h
 simp only[bG,Bool.not_eq_true'] at hb
 refine zO (eO hb.1.1.1) λhk hcell ah hlx=>?_
 have hlx2:=p9 hb.1.1.2
 have hxx:x≠x₂:=λe=>by
  have:=hb.1.2
  rw[e,seq_iff.mpr rfl] at this
  exact d9 this.symm
 refine MG h ?_;clear h;intro cl hf h
 have hcl:closureFor sc (fn.env L)=pure (j8 (fn.env L) sc.names []):=eM λq hq e=>by rw[Fn.env0 ac];exact(dN hL n.V hf).1 q hq e
 refine q41 (xF hg) λp1 p2 kk p3 z1=>?_;subst z1
 refine LCp.ListComp_P n.F hcl hcell hk ah hlx hlx2 hxx (I.E fn st loc it C (Tr.wp_bind h) n λv aT u aB h' aU af xt n' hv=>?_) (dB hb.2 _)
 refine qC af ?_;clear af;intro j ez0 af;subst ez0
 refine b7 hv λax ha z1=>?_;clear hv;subst z1
 refine wZ af ?_;clear af;intro vs hs af
 refine fP (cU n'.N n'.R hs ha) λws q hw hq il=>?_
 refine i8 af ?_;clear af;intro hsm af
 have hmem:(ax,listOf ws.toArray q)∈xs++aB:=ay _ (bD hq)
 refine LCp.SrcLP.ledger C.hh n'.F n'.NX hmem (by rw[bT];exact eH hsm hw) λg=>?_
 have fz0:(aT.set j SO.fz)[j]? =some .fz:=by
  rw[bc]
  have:j<aT.length:=rV hs
  simp[this]
 have:=goP I C ac (sc:=sc) (loc:=loc) (G:=ghost G ax (listOf ws.toArray q)) (ρ₀:=adr aB) (its:=ws.toArray) (lo:=listOf ws.toArray q) (s:={s with heap:=g,toks:=aU}) (mm:=mm) (xs:=xs) hf ha (by unfold ghost;rw[if_pos rfl]) ⟨rfl,q,rfl⟩
  (Fin:=LCg.FinE aY L.a mm {s with heap:=g,toks:=aU} Q) (λaq st2 ys aJ h2 x2 R2 off2 fz2 hy=>?_)
  vs ws 0 _ [] [] aB (Tr.wp_bind af) .rfl' hw (by simp) trivial (dL n'.R hq) n'.off fz0 n'.V
 ·simpa using this
 ·intro D h3 tk3 F3 N3 o1
  have hz:gJ st2 j=true:=by unfold gJ;rw[fz2]
  simp only[hz] at h2
  obtain⟨n3,r3⟩:=kA (loc:=loc) (loc':=loc) (mm:=mm) (news0:=aA) R2 (x2.get ha) fz2 (hw.ext x2) off2 n'.CX hy F3 N3 o1 (λx v hx=>((n'.V x v hx).ext x2).ext ext_push)
  exact k _ _ (.ref D) _ h3 tk3 h2 ((xt.trans x2).trans ext_push) n3 r3
end
def LC (st:List SO) (i:Nat):Option (Nat×List SV):=match st[i]? with
 |some (.list vs)=>match small vs with
  |true=>some (vs.length,vs)
  |false=>none
 |some (.listB n vs)=>match Nat.ble n 1000 with
  |true=>some (n,vs)
  |false=>none
 |_=>none
def N9 (ih:Ih) (fn:Fn) (st:List SO) (loc:Loc) (l:Expr) (op:Operator) (r:Expr):Tr (SV×List SO):=
 (ih.E fn st loc l).bind λx=>(ih.E fn x.2 loc r).bind λy=>match PV op x.1 y.1 with
  |some v=>.ret (v,y.2)
  |none=>match op with
   | .Add=>match x.1,y.1 with
    | .obj i,.obj j=>match LC y.2 i,LC y.2 j with
     |some p,some q=>.ret (.obj y.2.length,y.2++[.listB (p.1+q.1) (p.2++q.2)])
     |_,_=>.no
    |_,_=>.no
   |_=>.no
section
variable {w:World} {prog:Program} {ih:Ih} {tb:Tb} (TB:TbOk w tb) (I:IhOk w prog ih)
theorem yJ {h:Heap} {L:Addr} (N:News aY L h aA) (R:Rep w G st aA) {i:Nat} {p:Nat×List SV} (hi:LC st i=some p) {a:Addr} (ha:(adr aA)[i]? =some a):
  ∃ws,RVs (adr aA) p.2 ws/\h.IsList a ws.toArray/\ws.length<=p.1/\p.1<=1000:=by
 unfold LC at hi
 refine mz7 hi ?_ ?_<;>clear hi
 ·intro vs hs hi
  refine jM hi ?_;clear hi;intro hb hi
  replace hi:=oS hi;subst hi
  refine fP (cU N R hs ha) λws q hw hq il=>?_
  exact⟨ws,hw,il,Nat.le_of_eq hw.len,bA hb⟩
 ·intro n vs hs hi
  refine jM hi ?_;clear hi;intro hb hi
  replace hi:=oS hi;subst hi
  refine qM (R.at_ i _ hs) λqq hq z1 hl=>?_
  refine iJ z1 λws q hw he=>?_;clear z1
  have e2:qq.1=a:=fH hq ha
  have il:h.IsList a ws.toArray:=by
   have e4:=(N qq (bD hq)).1
   rw[e2,he] at e4
   exact⟨_,e4,rfl,q,rfl⟩
  exact⟨ws,hw,il,by rw[hw.len];exact hl,bA hb⟩
include I in
theorem aAN {fn:Fn} {st:List SO} {loc:Loc} {l r:Expr} {op:Operator} {pos:Pos}:SE w prog fn st loc (N9 ih fn st loc l op r) (eval (.BinOp l op r pos)):=by
 intro A outer aZ base aY L p loose aC mg mb C φ h s mm G xs aA Q E n k
 refine wpAny_BinOp (I.E fn st loc l C (Tr.wp_bind h) n λv aT u aB h' aU af x n' hv=>?_)
 refine I.E fn aT loc r C (Tr.wp_bind af) n' λv2 st2 u2 aJ h2 aX hφ2 x2 n2 hv2=>?_
 refine mV2 hφ2 ?_ ?_<;>clear hφ2
 ·intro c hc hφ2
  exact PW hc n2 (hv.ext x2) hv2 λz aU hz=>k c st2 z aJ h2 aU hφ2 (x.trans x2) n2 hz
 ·intro _ hφ2;refine XZ hφ2 ?_;clear hφ2;intro ez0 hφ2;subst ez0
  refine X1 hφ2 ?_;clear hφ2;intro i j ez0 ez1 hφ2;subst ez0 ez1
  refine b7 (hv.ext x2) λa ha z1=>?_;subst z1
  refine b7 hv2 λb hb z1=>?_;clear hv2;subst z1
  refine X3 hφ2 ?_;clear hφ2;intro pp qq h1 h2 hφ2
  refine DU (yJ n2.N n2.R h1 ha) λws hw il l1 b1=>?_
  refine DU (yJ n2.N n2.R h2 hb) λws2 hw2 il2 l2 b2=>?_
  refine add_lists n2.F n2.NX il il2 (λh3 F3 N3=>?_) (by rw[sizeLine_eq];omega)
  obtain⟨n3,x3,r3⟩:=n2.push (so:=.listB (pp.1+qq.1) (pp.2++qq.2)) F3 N3 (λp hp=>Heap.lt_size (n2.NX p hp).1) ⟨⟨ws++ws2,0,(hw.app hw2).ext ext_push,rfl⟩,by rw[bI,<-hw.len,<-hw2.len];omega⟩
  exact k _ _ _ _ h3 aX hφ2 ((x.trans x2).trans x3) n3 r3
end
noncomputable def tD (ih:Ih) (fn:Fn) (loc:Loc) (op:BoolOp):List SO->List Expr->Tr (SV×List SO)
 |_,[]=>.no
 |st,e::r=>match r with
  |[]=>ih.E fn st loc e
  |_::_=>(ih.E fn st loc e).bind λx=>match x.1 with
   | .bool b=>match op with
    | .And=>rD false b (tD ih fn loc op x.2 r) (.ret (.bool b,x.2))
    | .Or=>rD false b (.ret (.bool b,x.2)) (tD ih fn loc op x.2 r)
   |_=>.no
section
variable {w:World} {prog:Program} {ih:Ih} {tb:Tb} (TB:TbOk w tb) (KO:eZ w tb) (I:IhOk w prog ih)
include I in
theorem xK {fn:Fn} {loc:Loc} {op:BoolOp} {pos:Pos}:∀{es:List Expr} {st:List SO},SE w prog fn st loc (tD ih fn loc op st es) (eval (.BoolOp op es pos))
 |[],st=>λC φ h=>h.elim
 |[e],st=>λC φ h s mm G xs aA Q E n k=>by
  exact BoolOp_one (I.E fn st loc e C h n k)
 |e::e2::r,st=>λC φ h s mm G xs aA Q E n k=>by
  cases op with
  |And=>
   refine BoolOp_and (I.E fn st loc e C (Tr.wp_bind h) n λv aT u aB h' aU af x n' hv=>?_)
   cases v with
   |bool b=>
    cases hv
    refine wpAny_truthy_bool ?_
    have hp:=f9 af
    cases b with
    |true=>
     simp only[if_true] at hp ⊢
     exact xK C hp n' λv2 st2 u2 aJ h2 aX hφ2 x2 n2 hv2=>k v2 st2 u2 aJ h2 aX hφ2 (x.trans x2) n2 hv2
    |false=>exact k (.bool false) aT _ aB h' aU hp x n' rfl
   |_=>exact af.elim
  |Or=>
   refine BoolOp_or (I.E fn st loc e C (Tr.wp_bind h) n λv aT u aB h' aU af x n' hv=>?_)
   cases v with
   |bool b=>
    cases hv
    refine wpAny_truthy_bool ?_
    have hp:=f9 af
    cases b with
    |true=>exact k (.bool true) aT _ aB h' aU hp x n' rfl
    |false=>
     simp only[bW,if_false] at hp ⊢
     exact xK C hp n' λv2 st2 u2 aJ h2 aX hφ2 x2 n2 hv2=>k v2 st2 u2 aJ h2 aX hφ2 (x.trans x2) n2 hv2
   |_=>exact af.elim
noncomputable def GF (e:Expr):Bool:=match e with
 | .Attribute ..=>true
 |_=>false
def uK (gens:List Comprehension):Bool:=match gL gens with
 |some (_,it,none)=>(fO it).isSome
 |_=>false
noncomputable def NU (e:Expr):Bool:=match e with
 | .Slice ..=>true
 |_=>false
def KJ (ih:Ih) (fn:Fn) (st:List SO) (loc:Loc) (o i:Expr):Tr (SV×List SO):=match NU i with
 |true=>match GF o with
  |true=>RL ih fn st loc o i
  |false=>nSl ih fn st loc o i
 |false=>RM ih fn st loc o i
def TY (tb:Tb) (ih:Ih) (fn:Fn) (st:List SO) (loc:Loc) (elt:Expr) (gens:List Comprehension) (sc:PySem.Scope):Tr (SV×List SO):=match(mJ gens).isSome with
 |true=>RC ih fn st loc elt gens sc
 |false=>match uK gens with
  |true=>RD tb ih fn st loc elt gens sc
  |false=>RB ih fn st loc elt gens sc
def stE (tb:Tb) (sy:Pos->Bool) (ih:Ih) (fn:Fn) (st:List SO) (loc:Loc) (e:Expr):Tr (SV×List SO):=match e with
 | .Name x _=>HE tb fn st loc x
 | .Constant c _ _=>G6 st c
 | .Attribute o n _=>G1 tb ih fn st loc o n
 | .BinOp l op r _=>N9 ih fn st loc l op r
 | .UnaryOp op x _=>nUn ih fn st loc op x
 | .Compare l ops rs p=>match ops,rs with
  |[op],[r]=>(BA ih fn st loc l op r).bind λx=>.ret (.bool x.1,x.2)
  |[op1,op2],[r1,r2]=>(mY ih (sy p) fn st loc l op1 op2 r1 r2).bind λx=>.ret (.bool x.1,x.2)
  |_,_=>.no
 | .BoolOp op es _=>tD ih fn loc op st es
 | .IfExp t b o p=>mZ ih (sy p) fn st loc t b o
 | .List es _=>OD ih fn st loc es
 | .Tuple es _ _=>Y5 ih fn st loc es
 | .Dict ks vs _=>match ks,vs with
  |[],[]=>G7 st
  |_,_=>.no
 | .Subscript o i _=>KJ ih fn st loc o i
 | .Call f a ks p=>OA tb ih fn st loc f a ks p
 | .ListComp elt gens sc _=>TY tb ih fn st loc elt gens sc
 |_=>.no
def GG (fn:Fn) (ts:List Expr) (v:Expr):Bool:=match pureOf (swappedStores ts v (fn.fenv fl0)) with
 |some (some _)=>true
 |_=>false
noncomputable def PQ (v:Expr):Option (Expr×List Comprehension×PySem.Scope×Pos):=match v with
 | .ListComp a b c d=>some (a,b,c,d)
 |_=>none
theorem LD {v:Expr} {q:Expr×List Comprehension×PySem.Scope×Pos} (h:PQ v=some q):v=.ListComp q.1 q.2.1 q.2.2.1 q.2.2.2:=by
 cases v with
 |ListComp=>rw[<-oS h]
 |_=>exact b5 h
def xT (ih:Ih) (fn:Fn) (st:List SO) (loc:Loc) (x:Str) (px:Pos) (v:Expr):Tr (Flo×List SO×Loc):=match PQ v with
 |some q=>RA ih fn st loc x px q.1 q.2.1 q.2.2.1 q.2.2.2
 |none=>w8 ih fn st loc x v
def xU (ih:Ih) (fn:Fn) (st:List SO) (loc:Loc) (a:Str) (pa:Pos) (b:Str) (pb:Pos) (v:Expr):Tr (Flo×List SO×Loc):=match yX v with
 |true=>nTT ih fn st loc a b pa pb v
 |false=>HF ih fn st loc a b v
def xW (ih:Ih) (fn:Fn) (st:List SO) (loc:Loc) (a b v:Expr):Tr (Flo×List SO×Loc):=match kU a with
 |some p=>match kU b with
  |some q=>xU ih fn st loc p.1 p.2 q.1 q.2 v
  |none=>.no
 |none=>.no
def O2 (ih:Ih) (fn:Fn) (st:List SO) (loc:Loc) (es:List Expr) (v:Expr):Tr (Flo×List SO×Loc):=match es with
 |[a,b]=>xW ih fn st loc a b v
 |_=>.no
def KA (tb:Tb) (ih:Ih) (fn:Fn) (st:List SO) (loc:Loc) (t v:Expr):Tr (Flo×List SO×Loc):=match t with
 | .Name x px=>xT ih fn st loc x px v
 | .Attribute o x _=>w4 tb ih fn st loc o x v
 | .Subscript o i _=>w5 ih fn st loc o i v
 | .Tuple es k tp=>match GG fn [.Tuple es k tp] v with
  |true=>nSw ih fn st loc [.Tuple es k tp] v
  |false=>O2 ih fn st loc es v
 |_=>.no
def KD (tb:Tb) (ih:Ih) (fn:Fn) (st:List SO) (loc:Loc) (t it:Expr) (b:List Stmt):Tr (Flo×List SO×Loc):=match(fO it).isSome with
 |true=>HA tb ih fn st loc t it b
 |false=>G9 tb ih fn st loc t it b
def stX (tb:Tb) (sy:Pos->Bool) (ih:Ih) (fn:Fn) (st:List SO) (loc:Loc) (x:Stmt):Tr (Flo×List SO×Loc):=match x with
 | .Expr e _=>G8 ih fn st loc e
 | .Assign ts v _=>match ts with
  |[t]=>KA tb ih fn st loc t v
  |_=>.no
 | .If t b o p=>YY ih (sy p) fn st loc t b o
 | .Return e _=>Y3 ih fn st loc e
 | .While t b o _=>qE ih fn t b o 64 st loc
 | .For t it b o _=>match o with
  |[]=>KD tb ih fn st loc t it b
  |_=>.no
 | .Continue _=>.ret (.cont,st,loc)
 | .Pass _=>.ret (.next,st,loc)
 |_=>.no
noncomputable def stS (tb:Tb) (sy:Pos->Bool) (ih:Ih) (fn:Fn):List Stmt->List SO->Loc->Tr (Flo×List SO×Loc)
 |[],st,loc=>.ret (.next,st,loc)
 |x::r,st,loc=>(stX tb sy ih fn st loc x).bind λy=>match y.1 with
  | .next=>stS tb sy ih fn r y.2.1 y.2.2
  |_=>.ret y
noncomputable def aC5:Ih:=⟨λ_ _ _ _=>.no,λ_ _ _ _=>.no,λ_ _ _ _=>.no⟩
noncomputable def ev (tb:Tb) (sy:Pos->Bool):Nat->Ih
 |0=>aC5
 |n+1=>⟨stE tb sy (ev tb sy n),OH sy (ev tb sy n),λfn st loc b=>stS tb sy (ev tb sy n) fn b st loc⟩
theorem kQ {m:Env->Sem Value}:SE w prog fn st loc .no m:=λ_ _ h=>h.elim
theorem kR {m:Env->Sem Flow}:SS w prog fn st loc .no m:=λ_ _ _ h=>h.elim
include I in
theorem KK (aH:prog=rw1.prog) {o i:Expr} {pos:Pos}:SE w prog fn st loc (KJ ih fn st loc o i) (eval (.Subscript o i pos)):=by
 delta KJ
 cases NU i with
 |true=>cases GF o with
  |true=>exact @aCY w prog ih I fn st loc o _ pos
  |false=>exact @sSl w prog ih I fn st loc o _ pos
 |false=>exact @aCZ w prog ih I aH fn st loc o _ pos
include TB I in
theorem NB {elt:Expr} {gens:List Comprehension} {sc:PySem.Scope} {pos:Pos}:SE w prog fn st loc (TY tb ih fn st loc elt gens sc) (eval (.ListComp elt gens sc pos)):=by
 delta TY
 cases (mJ gens).isSome with
 |true=>exact @aCV w prog ih I fn st loc elt gens sc pos
 |false=>cases uK gens with
  |true=>exact @aCW w prog ih tb TB I fn st loc elt gens sc pos
  |false=>exact @aAR w prog ih I fn st loc elt gens sc pos
include I in
theorem DH {x:Str} {px:Pos} {v:Expr} {pos:Pos}:SS w prog fn st loc (xT ih fn st loc x px v) (exec (.Assign [.Name x px] v pos)):=by
 delta xT
 cases e:PQ v with
 |some q=>rw[LD e];exact @aCU w prog ih I fn st loc x px _ _ _ _ pos
 |none=>exact @JW w prog ih I fn st loc x _ px pos
include I in
theorem DI {x y:Str} {px py:Pos} {tp:Pos} {v:Expr} {pos:Pos}:SS w prog fn st loc (xU ih fn st loc x px y py v) (exec (.Assign [.Tuple [.Name x px,.Name y py] k tp] v pos)):=by
 delta xU
 cases yX v with
 |true=>exact @sTT w prog ih I fn st loc _ _ _ _ _ _ pos _
 |false=>exact @aAU w prog ih I fn st loc _ _ _ _ _ _ pos _
include I in
theorem DK {a b:Expr} {tp:Pos} {v:Expr} {pos:Pos}:SS w prog fn st loc (xW ih fn st loc a b v) (exec (.Assign [.Tuple [a,b] k tp] v pos)):=by
 delta xW
 cases ea:kU a with
 |none=>exact kR
 |some p=>cases eb:kU b with
  |none=>exact kR
  |some q=>rw[fX ea,fX eb];exact DI I
include I in
theorem KL {es:List Expr} {tp:Pos} {v:Expr} {pos:Pos}:SS w prog fn st loc (O2 ih fn st loc es v) (exec (.Assign [.Tuple es k tp] v pos)):=by
 cases es with
 |nil=>exact kR
 |cons a r=>cases r with
  |nil=>exact kR
  |cons b r=>cases r with
   |cons=>exact kR
   |nil=>exact DK I
include TB I in
theorem KB (aH:prog=rw1.prog) {t v:Expr} {pos:Pos}:SS w prog fn st loc (KA tb ih fn st loc t v) (exec (.Assign [t] v pos)):=by
 cases t with
 |Name x px=>exact DH I
 |Attribute=>exact @JU w prog ih tb TB I fn st loc _ _ _ _ pos
 |Subscript=>exact @JV w prog ih I aH fn st loc _ _ _ _ pos
 |Tuple es k tp=>
  delta KA
  dsimp only
  cases GG fn [.Tuple es k tp] v with
  |true=>exact @sSw w prog ih I fn st loc _ _ _ pos _
  |false=>exact KL I
 |_=>exact kR
include TB I in
theorem KG (aH:prog=rw1.prog) {t it:Expr} {b:List Stmt} {pos:Pos}:SS w prog fn st loc (KD tb ih fn st loc t it b) (exec (.For t it b [] pos)):=by
 delta KD
 cases (fO it).isSome with
 |true=>exact @TK w prog ih tb TB I fn st loc t it b pos
 |false=>exact @aAQ w prog ih tb TB I aH fn st loc t it b pos
include TB KO I in
theorem TX (aH:prog=rw1.prog) {sy:Pos->Bool} {e:Expr}:SE w prog fn st loc (stE tb sy ih fn st loc e) (eval e):=by
 cases e with
 |Name x pos=>exact @aAT w prog tb TB fn st loc x pos
 |Constant c j pos=>exact @TI w prog fn st loc c j pos
 |Attribute o n pos=>exact @aAM w prog ih tb TB I fn st loc o n pos
 |BinOp l op r pos=>exact @aAN w prog ih I fn st loc l r op pos
 |UnaryOp op x pos=>exact @sUn w prog ih I fn st loc x op pos
 |Compare l ops rs pos=>
  cases ops with
  |nil=>exact kQ
  |cons op ops=>
   cases ops with
   |cons op2 ops=>
    cases ops with
    |cons _ _=>exact kQ
    |nil=>
     cases rs with
     |nil=>exact kQ
     |cons r1 rs=>
      cases rs with
      |nil=>exact kQ
      |cons r2 rs=>
       cases rs with
       |cons _ _=>exact kQ
       |nil=>exact @TH w prog ih I aH (sy pos) fn st loc l r1 r2 op op2 pos
   |nil=>
    cases rs with
    |nil=>exact kQ
    |cons r rs=>
     cases rs with
     |cons _ _=>exact kQ
     |nil=>exact @aCS w prog ih I aH fn st loc l r op pos
 |BoolOp op es pos=>exact @xK w prog ih I fn loc op pos es st
 |IfExp t b o pos=>exact @sIf w prog ih I (sy pos) fn st loc t b o pos
 |List es pos=>exact @aAS w prog ih I fn st loc es pos
 |Tuple es j pos=>exact @aCa w prog ih I fn st loc es j pos
 |Dict ks vs pos=>
  cases ks with
  |cons=>exact kQ
  |nil=>
   cases vs with
   |cons=>exact kQ
   |nil=>subst aH;exact @TJ w fn st loc pos
 |Subscript o i pos=>exact KK I aH
 |Call f a ks pos=>exact @aAO w prog ih tb TB KO I aH fn st loc f a ks pos
 |ListComp elt gens sc pos=>exact NB TB I
 |_=>exact kQ
include TB KO I in
theorem TZ (aH:prog=rw1.prog) {sy:Pos->Bool} {x:Stmt}:SS w prog fn st loc (stX tb sy ih fn st loc x) (exec x):=by
 cases x with
 |Expr e pos=>exact @aAP w prog ih I fn st loc e pos
 |Assign ts v pos=>
  cases ts with
  |nil=>exact kR
  |cons t r=>cases r with
   |nil=>exact KB TB I aH
   |cons=>exact kR
 |If t b o pos=>exact @aCT w prog ih I (sy pos) fn st loc t b o pos
 |Return e pos=>exact @aCX w prog ih I fn st loc e pos
 |While t b o pos=>exact @TM w prog ih I fn st loc t b o pos 64
 |For t it b o pos=>
  cases o with
  |cons=>exact kR
  |nil=>exact KG TB I aH
 |Continue pos=>
  intro A outer aZ base aY L p loose aC mg mb C ac φ h s mm G xs aA Q E PE n k
  exact wpAny_Continue (k .cont st loc .cont mm aA s.heap s.toks h .rfl' n rfl)
 |Pass pos=>
  intro A outer aZ base aY L p loose aC mg mb C ac φ h s mm G xs aA Q E PE n k
  exact wpAny_Pass (k .next st loc .next mm aA s.heap s.toks h .rfl' n rfl)
 |_=>exact kR
include TB KO I in
theorem KI (aH:prog=rw1.prog) {sy:Pos->Bool}:∀{b:List Stmt} {st:List SO} {loc:Loc},SS w prog fn st loc (stS tb sy ih fn b st loc) (execs b)
 |[],st,loc=>λC ac φ h s mm G xs aA Q E PE n k=>by
  exact wpAny_execs_nil (k .next st loc .next mm aA s.heap s.toks h .rfl' n rfl)
 |x::r,st,loc=>λC ac φ h s mm G xs aA Q E PE n k=>by
  refine wpAny_execs_cons (TZ TB KO I aH C ac (Tr.wp_bind h) PE n λf aT loc' fl aV aB h' aU af x n' hf=>?_)
  cases f with
  |next=>
   cases hf
   exact KI aH C ac af PE n' λf2 st2 loc2 fl2 aQ aJ h2 aX hφ2 x2 n2 hf2=>k f2 st2 loc2 fl2 aQ aJ h2 aX hφ2 (x.trans x2) n2 hf2
  |brk=>cases hf;exact k .brk aT loc' .brk aV aB h' aU af x n' rfl
  |cont=>cases hf;exact k .cont aT loc' .cont aV aB h' aU af x n' rfl
  |ret v=>
   refine b7 hf λu z1 hu=>?_;clear hf;subst z1
   exact k (.ret v) aT loc' (.ret u) aV aB h' aU af x n' ⟨u,rfl,hu⟩
include TB KO in
theorem yR (sy:Pos->Bool):∀n,IhOk w rw1.prog (ev tb sy n)
 |0=>⟨λfn st loc e=>by intro A outer aZ base aY L p loose aC mg mb C φ h;exact h.elim,λfn st loc e=>by intro A outer aZ base aY L p loose aC mg mb C φ h;exact h.elim,λfn st loc b=>by intro A outer aZ base aY L p loose aC mg mb C ac φ h;exact h.elim⟩
 |n+1=>by
  have I:=yR sy n
  exact⟨λfn st loc e=>TX TB KO I rfl,λfn st loc e=>aAW I rfl,λfn st loc b=>KI TB KO I rfl⟩
end
noncomputable def qX (k:Nat):SV->SV
 | .obj j=>.obj (k+j)
 | .cell j=>.cell (k+j)
 |v=>v
def KZ (k:Nat) (es:List (Str×SV)):List (Str×SV):=es.map λp=>(p.1,qX k p.2)
def lG (k:Nat):SO->SO
 | .inst C d=>.inst C (k+d)
 | .ud es=>.ud (KZ k es)
 | .dict es=>.dict (KZ k es)
 | .list vs=>.list (vs.map (qX k))
 | .listB n vs=>.listB n (vs.map (qX k))
 | .tup vs=>.tup (vs.map (qX k))
 | .raw o=>.raw o
 | .fz=>.fz
 | .pud es=>.pud (KZ k es)
 | .cell v=>.cell (v.map (qX k))
def Grp (w:World) (sg:List SO) (g:List (Addr×Obj)):Prop:=∀G,Rep w G sg g
theorem qY {ρ σ τ:List Addr}:∀{v:SV} {u:Value},RV σ v u->RV (ρ++σ++τ) (qX ρ.length v) u
 | .none,_,h=>h
 | .bool _,_,h=>h
 | .int _,_,h=>h
 | .str _,_,h=>h
 | .bytes _ _,_,h=>h
 | .lit _,_,h=>h
 | .cell _,_,h=>h
 | .obj j,u,⟨a,h,e⟩=>by
  refine⟨a,?_,e⟩
  have hj:j<σ.length:=rV h
  rw[bB,bV (Nat.le_add_right _ _),Nat.add_sub_cancel_left,bU hj,h]
theorem tK {σ τ:List Addr} {v:List SV} {u:List Value} (h:RVs σ v u):RVs (ρ++σ++τ) (v.map (qX ρ.length)) u:=All2.mapl (λ_ _ a=>qY a) h
theorem TR {P:Params} {σ τ:List Addr} {v:List (Str×SV)} {u:List DictEntry} (h:RE P σ v u):RE P (ρ++σ++τ) (KZ ρ.length v) u:=RE.map (f:=qX ρ.length) (λh=>qY h) h
theorem J7 {σ τ:List Addr} {v:List (Str×SV)} {u:List (Str×Value)} (h:RK σ v u):RK (ρ++σ++τ) (KZ ρ.length v) u:=All2.mapl (λ_ _ a=>⟨a.1,qY a.2⟩) h
theorem TS {ρ σ τ:List Addr} {a:Addr} {so:SO} {o:Obj} (h:RO w G σ a so o):RO w G (ρ++σ++τ) a (lG ρ.length so) o:=by
 cases so with
 |inst C d=>
  refine b7 h λx hx e=>?_;clear h
  refine b7 (qY (ρ:=ρ) (τ:=τ) (v:=.obj d) (u:=.ref x) ⟨x,hx,rfl⟩) λ_ h1 h2=>?_
  cases h2
  exact⟨_,h1,e⟩
 |ud es=>obtain⟨kvs,h1,h2⟩:=h;exact⟨kvs,J7 h1,h2⟩
 |dict es=>obtain⟨en,h1,h2⟩:=h;exact⟨en,TR h1,by rw[h2];unfold KZ;rw[bF]⟩
 |list vs=>obtain⟨ws,n,h1,h2⟩:=h;exact⟨ws,n,tK h1,h2⟩
 |listB k vs=>obtain⟨⟨ws,n,h1,h2⟩,l⟩:=h;exact⟨⟨ws,n,tK h1,h2⟩,by rw[bF];exact l⟩
 |tup vs=>obtain⟨ws,n,h1,h2⟩:=h;exact⟨ws,n,tK h1,h2⟩
 |raw o'=>exact h
 |fz=>exact h
 |pud es=>obtain⟨g,kvs,h1,h2⟩:=h;exact⟨g,kvs,J7 h1,h2⟩
 |cell v=>
  cases v with
  |none=>exact h
  |some v=>obtain⟨u,h1,h2⟩:=h;exact⟨u,h1,qY h2⟩
theorem Grp.len {sg:List SO} {g:List (Addr×Obj)} (h:Grp w sg g):g.length=sg.length:=(h λ_=>default).len
theorem Now.sub {aS:List (Addr×Obj)} {h:Heap} (n:Now w G aY L loc st mm xs aA h) (hL:∀c,L.c=some c->(c.C,c.oC)∈aS) (s:∀p∈aS,p∈xs):Now w G aY L loc st mm aS aA h:=
 ⟨n.F,λp hp=>n.NX p ((bN.mp hp).elim (λe=>bK _ (s p e)) λe=>ay _ e),hL,λp hp=>n.off p (s p hp),n.R,n.V⟩
theorem FL.none_cx (h:L.c=none):∀c,L.c=some c->(c.C,c.oC)∈xs:=λc e=>by rw[h] at e;exact b5 e
abbrev dJ:=List (Addr×Obj)
section
variable {w:World} {prog:Program}
theorem mW {t:Expr} {b:List Stmt}
  (C:Fx w fn A outer aZ base aY L p loose aC mg mb) (ac:fn.cs=none) {ρ₀:List Addr} {ws:List (Addr×String)} {keep:dJ}
  (J:List Itm->Loc->List SO->dJ->dJ->Prop) (JR:Value->List SO->dJ->dJ->Prop) (hws:(ws.map (·.1)).Nodup)
  (hkeep:∀us loc st xs aA,J us loc st xs aA->adr aA=ρ₀->Rep w G st aA->SubL keep (xs++aA))
  (step:∀a us loc st xs aA mm its h tk v,J (a::us) loc st xs aA->adr aA=ρ₀->Now w G aY L loc st mm (its++xs) aA h->(adr (its++xs)).Nodup->a.Is v h->∀Qb:Flow->Shared->Prop,
   (∀fl loc' aT aV aS aB h' aU,(fl=.next\/fl=.cont)->J us loc' aT aS aB->adr aB=ρ₀->Now w G aY L loc' aT aV (its++aS) aB h'->(adr (its++aS)).Nodup->Qb fl {s with heap:=h',toks:=aU})->
   (∀u loc' aT aV aS aB h' aU,JR u aT aS aB->adr aB=ρ₀->Now w G aY L loc' aT aV (its++aS) aB h'->(adr (its++aS)).Nodup->Qb (.ret u) {s with heap:=h',toks:=aU})->
   wpAny (model prog w) A (assign t (fn.fenv L) v) (λ_ s₃=>wpAny (model prog w) A (execs b (fn.fenv L)) Qb E s₃) E {s with heap:=h,toks:=tk})
  (fin:∀loc st mm xs aA h tk,J [] loc st xs aA->adr aA=ρ₀->Now w G aY L loc st mm xs aA h->(adr xs).Nodup->Q .next {s with heap:=h,toks:=tk})
  (ret:∀u loc st mm xs aA h tk,JR u st xs aA->adr aA=ρ₀->Now w G aY L loc st mm xs aA h->(adr xs).Nodup->Q (.ret u) {s with heap:=h,toks:=tk}):
  ∀(us:List Itm) {loc:Loc} {st:List SO} {mm:Str->Option Value} {xs aA:dJ},J us loc st xs aA->adr aA=ρ₀->
   Rep w G st aA->(∀p∈xs,∀q∈aA,p.1≠q.1)->(adr xs).Nodup->(∀x v,lk loc x=some v->VL L mm (adr aA) x v)->(∀p∈xs++aA,∀q∈ws,p.1≠q.1)->
   ItemsRest prog w A E aY (fn.fenv L) t b Q s ws keep us mm (xs++aA)
 |[],loc,st,mm,xs,aA,hJ,hρ,R,off,nd,V,ne=>ItemsRest.zero λh2 aX F2 N2=>fin loc st mm xs aA h2 aX hJ hρ ⟨F2,N2,FL.none_cx (C.c0 ac),off,R,V⟩ nd
 |a::us,loc,st,mm,xs,aA,hJ,hρ,R,off,nd,V,ne=>by
  have hL:=C.c0 ac
  intro v h2 aX hi F2
  refine rH λits hits N2=>?_
  have hmem:∀z∈its,∃y∈ws,z.1=y.1:=λz hz=>by
   have:z.1∈its.map (·.1):=bY.mpr ⟨z,hz,rfl⟩
   rw[hits] at this
   refine b7 (bY.mp this) λy hy e=>?_
   exact⟨y,hy,e.symm⟩
  have n2:Now w G aY L loc st mm (its++xs) aA h2:=by
   refine⟨F2,by rw[bB];exact N2,FL.none_cx hL,λp hp q hq=>?_,R,V⟩
   rcases bN.mp hp with e|e
   ·refine b7 (hmem p e) λy hy e1=>?_
    rw[e1]
    exact Ne.symm (ne q (ay _ hq) y hy)
   ·exact off p e q hq
  have nd2:(adr (its++xs)).Nodup:=by
   rw[adr,bH,bZ]
   refine⟨by rw[hits];exact hws,nd,λa ha b hb=>?_⟩
   refine b7 (bY.mp ha) λp hp z1=>?_;subst z1
   refine b7 (bY.mp hb) λq hq z1=>?_;subst z1
   refine b7 (hmem p hp) λy hy e1=>?_
   rw[e1]
   exact Ne.symm (ne q (bK _ hq) y hy)
  refine step a us loc st xs aA mm its h2 aX v hJ hρ n2 nd2 hi _ ?_ ?_
  ·intro fl loc' aT aV aS aB h' aU hfl hJ' hρ' n3 nd3
   have nd4:=nd3
   rw[adr,bH,bZ] at nd4
   have hno:∀p∈aS++aB,∀q∈its,p.1≠q.1:=λp hp q hq=>by
    rcases bN.mp hp with e|e
    ·exact λe2=>nd4.2.2 q.1 (bY.mpr ⟨q,hq,rfl⟩) p.1 (bY.mpr ⟨p,e,rfl⟩) e2.symm
    ·exact Ne.symm (n3.off q (bK _ hq) p e)
   have ne':∀p∈aS++aB,∀q∈ws,p.1≠q.1:=λp hp q hq=>by
    have:q.1∈its.map (·.1):=by rw[hits];exact bY.mpr ⟨q,hq,rfl⟩
    refine b7 (bY.mp this) λy hy e=>?_
    rw[<-e]
    exact hno p hp y hy
   have again:UnrEndW aY L.a {s with heap:=h2,toks:=aX} its (λm' n'=>SubL keep n'/\ItemsRest prog w A E aY (fn.fenv L) t b Q s ws keep us m' n') {s with heap:=h',toks:=aU}:=
    ⟨h',aU,aV,aS++aB,rfl,n3.F,(by rw[<-bB];exact n3.NX),hno,hkeep us loc' aT aS aB hJ' hρ' n3.R,
     mW C ac J JR hws hkeep step fin ret us hJ' hρ' n3.R (λp hp=>n3.off p (ay _ hp)) nd4.2.1 n3.V ne'⟩
   rcases hfl with rfl|rfl
   ·exact again
   ·exact again
  ·intro u loc' aT aV aS aB h' aU hJ' hρ' n3 nd3
   rw[adr,bH,bZ] at nd3
   exact ret u loc' aT aV aS aB h' aU hJ' hρ' (n3.sub (FL.none_cx hL) λp hp=>ay _ hp) nd3.2.1
theorem lU {sc:PySem.Scope} {x:Str} {cl:Loc} {elt:Expr}
  (C:Fx w fn A outer aZ base aY L p loose aC mg mb) (ac:fn.cs=none) {ρ₀:List Addr} {Src:dJ->Prop} {Pi:Nat->Value->Prop} {total:Nat}
  (hf:dE fn loc sc.names=some cl) (V:∀x v,lk loc x=some v->VL L mm ρ₀ x v) {Fin:List Value->dJ->Prop} (J:Nat->List Value->List SO->dJ->dJ->Prop)
  (hsrc:∀i ys st xs aA,J i ys st xs aA->adr aA=ρ₀->Rep w G st aA->Src (xs++aA))
  (step:∀i ys st xs aA,i<total->J i ys st xs aA->adr aA=ρ₀->∀v,Pi i v->∀(c:CF) (z3:dJ) h tk,Now w G aY ⟨L.a,L.cl,some c⟩ ((x,.lit v)::cl) st mm (z3++xs) aA h->(c.C,c.oC)∈z3->(adr (z3++xs)).Nodup->∀(Q':Value->Shared->Prop) (E':Value->Shared->Prop),
   (∀y aT aS aB loc' h' aU,J (i+1) (ys++[y]) aT aS aB->adr aB=ρ₀->Now w G aY ⟨L.a,L.cl,some c⟩ loc' aT mm (z3++aS) aB h'->(adr (z3++aS)).Nodup->Q' y {s with heap:=h',toks:=aU})->
   Fx w (fn.blk sc) A outer aZ base aY ⟨L.a,L.cl,some c⟩ p loose aC mg mb->
   wpAny (model prog w) A (eval elt ((fn.blk sc).env ⟨L.a,L.cl,some c⟩)) Q' E' {s with heap:=h,toks:=tk})
  (fin:∀ys st xs aA,J total ys st xs aA->adr aA=ρ₀->Rep w G st aA->(∀p∈xs,∀q∈aA,p.1≠q.1)->(adr xs).Nodup->Fin ys (xs++aA)):
  ∀(k i:Nat) (ys:List Value) (st:List SO) (xs aA:dJ),i+k=total->J i ys st xs aA->adr aA=ρ₀->Rep w G st aA->(∀p∈xs,∀q∈aA,p.1≠q.1)->(adr xs).Nodup->
   LCg.CompRest prog w A aY L.a mm (fn.env L) elt x sc (j8 (fn.env L) sc.names []) s Src Pi Fin k i ys (xs++aA)
 |0,i,ys,st,xs,aA,hk,hJ,hρ,R,off,nd=>LCg.CompRest.zero (by
   have:i=total:=hk
   rw[<-this] at step;rw[<-this] at fin;rw[<-this] at hk
   exact fin ys st xs aA hJ hρ R off nd)
 |k+1,i,ys,st,xs,aA,hk,hJ,hρ,R,off,nd=>by
  have hL:=C.c0 ac
  refine LCg.CompRest.succ λv I₀ oI Ca oC D m2 h2 aX E' hi hC hx F N off3 ne3=>?_
  obtain⟨C',e'⟩:=lT (sc:=sc) C ac ⟨Ca,oC,m2,j8 (fn.env L) sc.names [],hC⟩
  have hxs:∀p∈xs,p.1≠I₀/\p.1≠Ca/\p.1≠D:=λp hp=>off3.mem p (bK _ hp)
  have hcells:(fn.env L).cells=L.cl:=by rw[Fn.env0 ac]
  have n1:Now w G aY ⟨L.a,L.cl,some ⟨Ca,oC,m2,j8 (fn.env L) sc.names [],hC⟩⟩ ((x,.lit v)::cl) st mm ([(I₀,oI),(Ca,oC),(D,LCg.lst ys)]++xs) aA h2:=pN F N off3 off R (t8 hL (by rw[hρ];exact V) hf hcells hC hx rfl)
  have nd1:(adr ([(I₀,oI),(Ca,oC),(D,LCg.lst ys)]++xs)).Nodup:=by
   have hnot:∀a,(∀p∈xs,p.1≠a)->a∉xs.map (·.1):=λa h hm=>by
    refine b7 (bY.mp hm) λp hp e=>?_
    exact h p hp e
   show(I₀::Ca::D::xs.map (·.1)).Nodup
   rw[List.nodup_cons,List.nodup_cons,List.nodup_cons]
   refine⟨?_,?_,hnot _ (λp hp=>(hxs p hp).2.2),nd⟩
   ·intro hm
    rcases bX.mp hm with z|hm
    ·exact ne3.1 z
    rcases bX.mp hm with z|hm
    ·exact ne3.2.1 z
    ·exact hnot _ (λp hp=>(hxs p hp).1) hm
   ·intro hm
    rcases bX.mp hm with z|hm
    ·exact ne3.2.2 z
    ·exact hnot _ (λp hp=>(hxs p hp).2.1) hm
  rw[<-e']
  refine step i ys st xs aA (by omega) hJ hρ v hi _ _ h2 aX n1 (.tail _ (.head _)) nd1 _ _ (λy aT aS aB loc' h' aU hJ' hρ' n' nd'=>?_) C'
  have nd4:=nd'
  rw[adr,bH,bZ] at nd4
  have hxs':∀p∈aS,p.1≠I₀/\p.1≠Ca/\p.1≠D:=λp hp=>by
   have hp':p.1∈aS.map (·.1):=bY.mpr ⟨p,hp,rfl⟩
   exact⟨λe=>nd4.2.2 I₀ (.head _) _ hp' e.symm,λe=>nd4.2.2 Ca (.tail _ (.head _)) _ hp' e.symm,λe=>nd4.2.2 D (.tail _ (.tail _ (.head _))) _ hp' e.symm⟩
  have off':∀p∈aS,∀q∈aB,p.1≠q.1:=λp hp=>n'.off p (ay _ hp)
  refine LCg.CompEnd.intro n'.F n'.NX (aS++aB) (λp hp=>hp) (kE (l:=[]) (xs:=aS) hxs' n'.off) (hsrc _ _ _ _ _ hJ' hρ' n'.R) ?_
  exact lU C ac hf V J hsrc step fin k (i+1) (ys++[y]) aT aS aB (by omega) hJ' hρ' n'.R off' nd4.2.1
end
end Mine.R
end
section
open PySem PySem.W PySem.Calls PySem.SeqAt
namespace Mine.X
open Mine Mine.R PySem.Builtin PySem.Builtin.ObjectAttr
abbrev FX:=PySem.F.excBase_Exception
structure ExP where
 nm:Str
 q:Str
 N:Addr
 bs:List Value
 sn:List Str
 sub:List Value
 ab:Bool
 col:Option Bool
 dd:Option Addr
 k0:Option Value
 k1:Option Value
 k2:Option Value
 k3:Option Value
 k5:Option Value
noncomputable abbrev oJ (P:ExP) (C:Addr) (bm:List Value) (hd:Bool) (n:String):Obj:=excClassObj P.nm P.q C P.N P.bs bm hd P.sn P.sub P.ab P.col P.dd P.k0 P.k1 P.k2 P.k3 P.k5 n
section
variable {prog:Program} {w:World} {A:Around} {E:Value->Shared->Prop} {h:Heap} {g:Array GenState} {d:Drawn} {t:Nat} {os:OsState}
variable {P:ExP} {C:Addr} {bm:List Value} {hdct:Bool}
theorem LI {M:Model} (hB:bm.contains (.type "Exception")=true) {rest:List Value} {Q:Unit->Shared->Prop} (hC:h.get? C=some (oJ P C bm hdct "Exception.__new__"))
  (hq:Q () ⟨h,g,d,t,os⟩):wpAny M A (checkBuiltinCall "Exception.__new__" ⟨.ref C::rest,[]⟩) Q E ⟨h,g,d,t,os⟩:=by
 have hcont:(Value.ref C::bm).contains (.type "Exception")=true:=by rw[List.contains_cons,hB,Bool.or_true]
 have hstar:=FX.noStar
 simp only[checkBuiltinCall,FX.newKind,FX.newSplit,FX.newRow]
 repeat (first|refine wpAny_loadPart_at hC ?_|(refine wpAny_isSubtype_exc hC ?_;rw[hcont])|refine wpAny_staticBase_exc hC ?_|refine wpAny_madeBy_exc hC ?_|simp only[bne_self_eq_false,bW,if_false]|wp_step)
 exact hq
theorem E3 {R:Result->Shared->Prop} (hB:bm.contains (.type "Exception")=true) (hA:bm.contains (.type "AttributeError")=false) (hN:bm.contains (.type "NameError")=false) {rest:List Value} (hC:h.get? C=some (oJ P C bm hdct "Exception.__new__"))
  (hq:R (.ok (.ret (.ref (h.objs.size+1)))) ⟨(h.push {cls:=.type "tuple",data:=.seq rest.toArray}).push
   {cls:=.ref C,data:=.fields #[.ref h.objs.size,.none,.none,.none,.bool false,.none]},g,d,t,os⟩) (hrest:rest.length<=sizeLine):
  codeAny (model prog w) A (.builtin "Exception.__new__" ⟨.ref C::rest,[]⟩) R ⟨h,g,d,t,os⟩:=by
 have hends:=FX.ends
 have hcB:(Value.ref C::bm).contains (.type "Exception")=true:=by rw[List.contains_cons,hB,Bool.or_true]
 have hcA:(Value.ref C::bm).contains (.type "AttributeError")=false:=by rw[List.contains_cons,hA];rfl
 have hcN:(Value.ref C::bm).contains (.type "NameError")=false:=by rw[List.contains_cons,hN];rfl
 refine codeAny_builtinAt FX.entry ?_
 unfold Builtin.«BaseException.__new__»
 refine wpAt_bind ?_
 show wpAt _ _ _ (stack >>=_) _ _ _
 refine wpAt_bind (wpAt_stack λp below=>wpAt_of_wpAny ?_)
 wp_walk
 refine wpAt_of_wpAny ?_
 rw[FX.owner]
 repeat (first|with_reducible refine wpAny_madeHere_exc FX.canon hC ?_|with_reducible refine wpAny_loadPart_at hC ?_|(with_reducible refine wpAny_isSubtype_exc hC ?_;first|rw[hcB]|rw[hcA]|rw[hcN])|wp_step)
 show R _ _
 rw[Heap.size_push]
 exact hq
theorem DO {rest:List Value} {fI:Addr} {oI:Obj} {Q:Fin->Shared->Prop} (hB:bm.contains (.type "Exception")=true) (hA:bm.contains (.type "AttributeError")=false) (hN:bm.contains (.type "NameError")=false)
  (hC:h.get? C=some (oJ P C bm hdct "Exception.__new__")) (hi:Looks (model prog w) h (typeLookup (.ref C) "__init__") (some (.ref fI)))
  (hfI:h.get? fI=some oI) (LX:oI.cls=.type "function")
  (hq:∀h' e,Heap.MadeExcOf h h' e (.ref C) rest->
   wpAny (model prog w) A (call (.ref fI) (.ref e::rest)) (λr s'=>r=.none/\Q (.done (.ret (.ref e))) s') E ⟨h',g,d,t,os⟩) (hrest:rest.length<=sizeLine):
  wpAny (model prog w) A (Builtin.«type.__call__» ⟨.ref C::rest,[]⟩) Q E ⟨h,g,d,t,os⟩:=by
 repeat (first|with_reducible refine wpAny_loadPart_at hC ?_|with_reducible refine wpAny_madeBy_exc hC ?_|wp_step)
 refine codeAny_call_builtin_code (Code.quiet_builtin _ FX.quiet) (LI hB hC ?_)
 refine E3 hB hA hN hC ?_ hrest
 show wpAny _ _ _ _ _ _
 have hC₁:=Heap.get?_push_of_some {cls:=.ref C,data:=.fields #[.ref h.objs.size,.none,.none,.none,.bool false,.none]}
  (Heap.get?_push_of_some {cls:=.type "tuple",data:=.seq rest.toArray} hC)
 have hfI₁:=Heap.get?_push_of_some {cls:=.ref C,data:=.fields #[.ref h.objs.size,.none,.none,.none,.bool false,.none]}
  (Heap.get?_push_of_some {cls:=.type "tuple",data:=.seq rest.toArray} hfI)
 have hi₁:=hi.keeps (h':=((h.push {cls:=.type "tuple",data:=.seq rest.toArray}).push {cls:=.ref C,data:=.fields #[.ref h.objs.size,.none,.none,.none,.bool false,.none]}))
  λb o e=>Heap.get?_push_of_some _ (Heap.get?_push_of_some _ e)
 have hget:((h.push {cls:=.type "tuple",data:=.seq rest.toArray}).push
   {cls:=.ref C,data:=.fields #[.ref h.objs.size,.none,.none,.none,.bool false,.none]}).get? (h.objs.size+1)=some
   {cls:=.ref C,data:=.fields #[.ref h.objs.size,.none,.none,.none,.bool false,.none]}:=by heap_get
 have hcC:(Value.ref C::bm).contains (.ref C)=true:=by simp
 repeat (first|with_reducible refine wpAny_loadPart_at hget ?_|(with_reducible refine wpAny_isSubtype_exc hC₁ ?_;rw[hcC])|wp_step)
 show wpAny _ _ (typeLookup (.ref C) _) _ _ _
 refine hi₁.here ?_
 refine wpAny_holding (wpAny_bind ?_)
 refine wpAny_bind (wpAny_typeOf (T:="function") ⟨_,hfI₁,LX⟩ ?_)
 rw[if_pos (by decide)]
 refine wpAny_pure (wpAny_bind (wpAny_mono (hq _ (h.objs.size+1) ⟨λb o hb=>Heap.get?_push_of_some _ (Heap.get?_push_of_some _ hb),Heap.get?_none_of_le (Nat.le_succ _),h.objs.size,hget,Heap.get?_none_of_le (Nat.le_refl _),?_⟩) (λr s' hr=>?_) λ_ _ x=>x))
 ·exact Heap.get?_push_of_some _ (Heap.get?_push_at rfl rfl)
 ·obtain⟨rfl,hQ⟩:=hr
  wp_walk
  exact hQ
theorem EX {rest:List Value} {fI:Addr} {oI:Obj} {Q:Value->Shared->Prop} (hB:bm.contains (.type "Exception")=true) (hA:bm.contains (.type "AttributeError")=false) (hN:bm.contains (.type "NameError")=false)
  (hC:h.get? C=some (oJ P C bm hdct "Exception.__new__")) (hi:Looks (model prog w) h (typeLookup (.ref C) "__init__") (some (.ref fI)))
  (hfI:h.get? fI=some oI) (LX:oI.cls=.type "function")
  (hq:∀h' e,Heap.MadeExcOf h h' e (.ref C) rest->
   wpAny (model prog w) (A.under (.builtin "type.__call__" ⟨.ref C::rest,[]⟩)) (call (.ref fI) (.ref e::rest)) (λr s'=>r=.none/\Q (.ref e) s') E ⟨h',g,d,t,os⟩) (hrest:rest.length<=sizeLine):
  wpAny (model prog w) A (call (.ref C) rest) Q E ⟨h,g,d,t,os⟩:=by
 have f1:=tc_lookup
 have f2:=tc_bind (.ref C)
 have hT:(⟨h,g,d,t,os⟩:Shared).TypeIs (.ref C) "type":=⟨_,hC,rfl⟩
 refine wpAny_call (codeAny_of_tree ?_)
 show wpAny _ _ (callAny (.ref C) _) _ _ _
 repeat (any_goals (first|assumption|with_reducible refine wpAny_loadPart_at hC ?_|wp_step))
 refine⟨rfl,?_⟩
 refine codeAny_call_builtin_at (Code.quiet_builtin _ (by decide +kernel)) entry_typeCall (wpAny_check_type_call_sub hC (DO hB hA hN hC hi hfI LX (λh' e hm=>?_) hrest))
 exact hq h' e hm
def iF (C:Addr) (o:Obj):Prop:=o.cls=.ref C/\∃tp:Addr,o.data=.fields #[.ref tp,.none,.none,.none,.bool false,.none]
theorem AL {e:Addr} {oe:Obj} {Q:Value->Shared->Prop} (hB:bm.contains (.type "Exception")=true)
  (hC:h.get? C=some (oJ P C bm hdct "Exception.__new__")) (he:h.get? e=some oe) (ho:iF C oe)
  (hq:∀h' oe',(∀b o,b≠e->h.get? b=some o->h'.get? b=some o)->h'.get? e=some oe'->iF C oe'->oe'.dict=oe.dict->oe'.slots=oe.slots->Q .none ⟨h',g,d,t,os⟩):
  wpAny (model prog w) A (call (.builtin "Exception.__init__") [.ref e,v]) Q E ⟨h,g,d,t,os⟩:=by
 obtain⟨hc,z1⟩:=ho
 obtain⟨tp,hd⟩:=z1
 obtain⟨oc,dct,dat,sl⟩:=oe
 dsimp only at hc hd hq
 replace he:=hc▸he;replace he:=hd▸he
 have chk:∀{A:Around} {Q:Unit->Shared->Prop} {E:Value->Shared->Prop},Q () ⟨h,g,d,t,os⟩->wpAny (model prog w) A (checkBuiltinCall "Exception.__init__" ⟨[.ref e,v],[]⟩) Q E ⟨h,g,d,t,os⟩:=by
  intro A Q E hq
  have hcB:(Value.ref C::bm).contains (.type "Exception")=true:=by rw[List.contains_cons,hB,Bool.or_true]
  have hshort:=FX.noStar
  simp only[checkBuiltinCall,FX.initKind,FX.initSplit,FX.initRow]
  repeat (first|with_reducible refine wpAny_loadPart_at he ?_|with_reducible refine wpAny_loadPart_at hC ?_|(with_reducible refine wpAny_isSubtype_exc hC ?_;rw[hcB])|wp_step)
  exact hq
 refine wpAny_call (codeAny_call_builtin FX.init.plain FX.initEntry (chk ?_))
 have he₁:(h.push {cls:=.type "tuple",data:=.seq #[v]}).get? e=some _:=Heap.get?_push_of_some _ he
 unfold Builtin.«BaseException.__init__»
 wp_walk
 refine hq _ _ ?_ (Heap.get?_update_self _ he₁ ?_) ?_ ?_ ?_
 ·intro b o hb hbo
  rw[Heap.get?_update_other _ _ (Ne.symm hb)]
  exact Heap.get?_push_of_some _ hbo
 ·rfl
 ·exact⟨rfl,_,rfl⟩
 ·rfl
 ·rfl
theorem MS {KF:Frag} {s:Shared} {x:Addr} {cd:ClassData} {ox:Obj} {od:Option Obj} {name:Str} {tk:Tok} {R:Result->Shared->Prop} (X:KF.In s.heap) (I:InstAt s.heap x ox C od) (hc:clsIn KF C=some cd) (hp:refuseLoop (.ref x) "__setattr__" cd.mro=pure ()) (hpo:cd.mro.contains (.type "object")=true) (ht:takerIn KF C name=some none)
  (h:∀b,wpAny (model prog w) A.in1 (storeInOwnDict (.ref x) (.ref C) (.str name tk) name v b)
   (λfin s'=>match fin with| .done f=>R (.ok f) s'| .again c'=>c'.quiet=true/\codeAny (model prog w) A c' R s') (λe s'=>R (.error e) s') s):
  codeAny (model prog w) A (.call (.builtin "object.__setattr__") ⟨[.ref x,.str name tk,v],[]⟩) R s:=by
 have SF:=PySem.F.store_object
 have ne:cd.mro.isEmpty=false:=by cases q:cd.mro with|nil=>rw[q] at hpo;exact d9 hpo|cons _ _=>rfl
 have sub:Looks (model prog w) s.heap (isInstance (.ref x) (.type "object")) true:=I.type.andThen (looks_mroIn X (by unfold mroIn;rw[hc,Option.bind_some,if_neg (by rw[ne];decide),hpo]))
 refine codeAny_call_builtin SF.slot.plain SF.entry (@check_slot (model prog w) _ _ s "object.__setattr__" "object" "__setattr__" (.ref x) [.str name tk,v] [] _ SF.kind SF.split sub (SF.args (.ref x) (.str name tk) v) ?_)
 refine b7 (Option.bind_eq_some_iff.mp ht) λattr ha hr=>?_
 have hm:Looks (model prog w) s.heap (mroOf (.ref C)) cd.mro:=(looks_clsIn X hc).andThen .now
 have L3:Looks (model prog w) s.heap (storeTaker? attr) none:=by
  cases attr with
  |none=>exact .now
  |some a=>
   refine b7 (Option.map_eq_some_iff.mp hr) λb hb hb2=>?_
   refine(looks_takesIn X hb).andThen ?_
   cases b
   ·exact .now
   ·first|exact b5 hb2|exact b5 hb2.symm
 rw[osa_eq,refuse_eq]
 refine wpAny_bind (wpAny_bind (I.type.here (wpAny_bind (hm.here ?_))))
 rw[hp]
 refine wpAny_pure (wpAny_bind (I.type.here (wpAny_bind ((looks_findIn X ha).here (wpAny_bind (L3.here ?_))))))
 exact h _
theorem DL {x:Addr} {o:Obj} {name:Str} {mA:Str->Option Value} {ns:List Str} {tk:Tok} {b:Bool} {Q:Fin->Shared->Prop}
  (hC:h.get? C=some (oJ P C bm true "Exception.__new__")) (I:h.Inst x C mA) (hx:h.get? x=some o)
  (hq:∀h' aU,h'.Inst x C (λy=>if y=name then some v else mA y)->
   (∀b o₁,b≠x->(∀dx,o.dict=some dx->b≠dx)->h.get? b=some o₁->h'.get? b=some o₁)->
   (∃o₁,h'.get? x=some o₁/\o₁.cls=o.cls/\o₁.data=o.data/\(∀dx,o.dict=some dx->o₁.dict=some dx)/\∀dx,o₁.dict=some dx->o.dict=some dx\/h.get? dx=none)->Q (.done (.ret .none)) ⟨h',g,d,aU,os⟩) (hw:Within mA ns) (hsz:ns.length<=100):
  wpAny (model prog w) A (storeInOwnDict (.ref x) (.ref C) (.str name tk) name v b) Q E ⟨h,g,d,t,os⟩:=by
 refine DU I λo' hx' hc hnc hd=>?_;clear I
 have:o'=o:=bS (hx'.symm.trans hx)
 subst this
 repeat (first|(with_reducible refine wpAny_loadPart_at hx ?_;rw[hc])|wp_step)
 rcases hd with⟨hdn,hmA⟩|⟨dx,hdx,hne,hns⟩
 ·rw[hdn,if_neg (by simp[typeHasDict])]
  split
  ·rename_i hcd
   exact b5 hcd
  split
  ·rename_i c hcd
   exact absurd hcd (hnc c)
  ·have hx₁:(h.push {cls:=.type "dict",data:=.dict #[]}).get? x=some o':=Heap.get?_push_of_some _ hx
   have hxs:x≠h.objs.size:=Nat.ne_of_lt (Heap.lt_size hx)
   refine wpAny_bind (wpAny_alloc' ?_)
   refine wpAny_bind (wpAny_update' hx₁ ?_)
   refine wpAny_pure ?_
   have hgd:((h.push {cls:=.type "dict",data:=.dict #[]}).update x λo=>{cls:=o.cls,dict:=some h.objs.size,data:=o.data,slots:=o.slots}).get? h.objs.size
     =some {cls:=.type "dict",data:=.dict #[]}:=
    (Heap.get?_update_ne _ _ _ _ hxs.symm).trans (Heap.get?_push_at rfl rfl)
   have hnd:((h.push {cls:=.type "dict",data:=.dict #[]}).update x λo=>{cls:=o.cls,dict:=some h.objs.size,data:=o.data,slots:=o.slots}).Ns h.objs.size (λ_=>none):=
    ⟨_,#[],_,hgd,rfl,λe he=>absurd he (by simp),λ_=>rfl⟩
   show wpAny _ _ (storeInDict h.objs.size (.str name tk) name v) _ _ _
   refine wpAny_bind (wpAny_pure (wpAny_bind (wpAny_nsSet1 (Heap.Ns1.of_empty hnd) λh' hn' hs=>?_)))
   refine ZR (hn'.count (Within.cons name v Within.nil)) λoD esD epD hoD hdD hcD=>?_
   refine wpAny_bind (wpAny_lookBehind hoD (by rw[hdD];exact pastItsLine_dict (bl hcD (by rw[List.length_cons,List.length_nil,sizeLine_eq];omega))) ?_)
   wp_walk
   have hx'':h'.get? x=some {cls:=o'.cls,dict:=some h.objs.size,data:=o'.data,slots:=o'.slots}:=by
    refine(hs.2 x hxs).trans (Heap.get?_update_self _ hx₁ ?_)
    have hfr:=(Heap.get?_some_iff.mp hx).2
    obtain⟨oc,od,odt,osl⟩:=o'
    cases odt<;>first|rfl|exact hfr
   refine hq h' _ ⟨{cls:=o'.cls,dict:=some h.objs.size,data:=o'.data,slots:=o'.slots},hx'',hc,hnc,.inr ⟨h.objs.size,rfl,hxs.symm,?_⟩⟩ (λb ob hbx _ hb=>?_)
    ⟨_,hx'',rfl,rfl,(λdx e=>by rw[hdn] at e;exact b5 e),λdx e=>by(replace e:=oS e;subst e);exact .inr (Heap.get?_none_of_le (Nat.le_refl _))⟩
   ·refine SD hn' λo' es ep e1 e2 e3 eu e4=>?_;clear hn'
    exact⟨o',es,ep,e1,e2,e3,eu,λy=>by rw[e4 y];by_cases hy:y=name<;>simp[hy,hmA]⟩
   ·exact(hs.2 b (Nat.ne_of_lt (Heap.lt_size hb))).trans ((Heap.get?_update_ne _ _ _ _ hbx).trans (Heap.get?_push_of_some _ hb))
 ·rw[hdx]
  refine wpAny_pure ?_
  show wpAny _ _ (storeInDict dx (.str name tk) name v) _ _ _
  refine wpAny_bind (wpAny_pure (wpAny_bind (wpAny_nsSet1 hns λh' hn' hs=>?_)))
  refine ZR (hn'.count (Within.cons name v hw)) λoD esD epD hoD hdD hcD=>?_
  refine wpAny_bind (wpAny_lookBehind hoD (by rw[hdD];exact pastItsLine_dict (bl hcD (by rw[List.length_cons,sizeLine_eq];omega))) ?_)
  wp_walk
  refine hq h' _ ⟨o',(hs.2 x hne.symm).trans hx,hc,hnc,.inr ⟨dx,hdx,hne,hn'⟩⟩ (λb ob _ hbd hb=>?_)
   ⟨o',(hs.2 x hne.symm).trans hx,rfl,rfl,(λ_ e=>e),λ_ e=>.inl e⟩
  exact(hs.2 b (hbd dx hdx)).trans hb
theorem z7 {KF:Frag} {cd:ClassData} {name:Str} {x:Addr} {ox:Obj} {mA:Str->Option Value} {ns:List Str} {Q:Unit->Shared->Prop} (X:KF.In h) (hc:clsIn KF C=some cd) (hp:refuseLoop (.ref x) "__setattr__" cd.mro=pure ()) (hpo:cd.mro.contains (.type "object")=true)
  (hsa:findIn KF (.ref C) "__setattr__"=some (some (.builtin "object.__setattr__"))) (ht:takerIn KF C name=some none)
  (hC:h.get? C=some (oJ P C bm true "Exception.__new__")) (hx:h.get? x=some ox) (ho:iF C ox) (I:h.Inst x C mA)
  (hq:∀h' aU ox',h'.Inst x C (λy=>if y=name then some v else mA y)->h'.get? x=some ox'->iF C ox'->(∀dx,ox.dict=some dx->ox'.dict=some dx)->(∀dx,ox'.dict=some dx->ox.dict=some dx\/h.get? dx=none)->
   (∀b o,b≠x->(∀dx,ox.dict=some dx->b≠dx)->h.get? b=some o->h'.get? b=some o)->Q () ⟨h',g,d,aU,os⟩) (hw:Within mA ns) (hsz:ns.length<=100):
  wpAny (model prog w) A (setAttr (.ref x) name v) Q E ⟨h,g,d,t,os⟩:=by
 have no:notCls ox=true:=by
  obtain⟨_,z1⟩:=ho
  obtain⟨tp,hd⟩:=z1
  unfold notCls
  rw[hd]
 have hI:∃od,InstAt h x ox C od:=by
  refine DU I λo' hx' hc' hnc hd=>?_;clear I
  have:o'=ox:=bS (hx'.symm.trans hx)
  subst this
  rcases hd with⟨hdn,_⟩|⟨dx,hdx,_,hns⟩
  ·exact⟨none,hx,hc',no,by rw[hdn];trivial⟩
  ·refine q32 hns λod _ _ hod _=>?_;clear hns
   exact⟨some od,hx,hc',no,by rw[hdx];exact hod⟩
 obtain⟨od,IA⟩:=hI
 refine set_plain (s:=⟨h,g,d,t,os⟩) X IA hsa (MS (s:=⟨h,g,d,t+1,os⟩) X IA hc hp hpo ht λb=>?_)
 refine DL hC I hx (λh' aU I' hk hs=>?_) hw hsz
 refine SC hs λo₁ h1 h2 h3 h4 h5=>?_;clear hs
 obtain⟨e1,z1⟩:=ho
 obtain⟨tp,e2⟩:=z1
 exact hq h' aU o₁ I' h1 ⟨h2.trans e1,tp,h3.trans e2⟩ h4 h5 hk
end
end Mine.X
end
section
open PySem PySem.W PyProof.Rows PySem.Calls PySem.SeqAt
namespace Mine.X
open Mine Mine.R
def NL (h:Heap) (e C:Addr):Prop:=∃oe vs a0,h.get? e=some oe/\oe.cls=.ref C/\oe.data=.fields vs/\vs[1]? =some .none/\vs[0]? =some a0
def Rsd (base G:Heap) (l:List Env) (e C:Addr) (aA:List (Addr×Obj)) (h:Heap):Prop:=
 ∃B a0,base.StaysIn B/\(∀b o,G.get? b=some o->b∉l.filterMap (·.frame)->B.get? b=some o)/\(∀q∈aA,B.get? q.1=some q.2/\G.get? q.1=none/\base.get? q.1=none)/\Heap.FlyingW B l e (.ref C) a0 h
theorem oY {g h:Heap} {L:Addr} {m:Str->Option Value} (F:Fr g L h m):g.get? L=none:=by
 cases q:g.get? L with
 |none=>rfl
 |some o=>exact absurd (Nat.lt_of_lt_of_le (Heap.lt_size q) F.above) (Nat.lt_irrefl _)
theorem gZ {env:Env} {L b:Addr} (hf:env.frame=some L) (hm:b∈(env::outer).filterMap (·.frame)):b=L\/b∈outer.filterMap (·.frame):=by
 refine b7 (List.mem_filterMap.mp hm) λenv' he hf'=>?_
 rcases bX.mp he with rfl|he
 ·exact .inl (bS (hf.symm.trans hf')).symm
 ·exact .inr (List.mem_filterMap.mpr ⟨env',he,hf'⟩)
theorem kD {g G:Heap} (k:∀b o,g.get? b=some o->G.get? b=some o) {b:Addr} (e:G.get? b=none):g.get? b=none:=by
 cases q:g.get? b with
 |none=>rfl
 |some o=>rw[k b o q] at e;exact b5 e.symm
section
variable {M:Model} {aZ A:Around} {E:Value->Shared->Prop} {s:Shared} {base g g₂:Heap} {outer:List Env} {env:Env} {L e C:Addr} {m:Str->Option Value} {Q:Unit->Shared->Prop} {aA:List (Addr×Obj)}
theorem QR (K:Below aZ base outer g) (hA:A.frames=some (env::outer)) (hf:env.frame=some L) (hk:env.scope.kind=.function) (F:Fr g L s.heap m) (N:News g L s.heap aA) (X:NL s.heap e C) (ge:g.get? e=none) (ne:∀q∈aA,q.1≠e)
  (hQ:∀h',Rsd base g outer e C aA h'->g.UpToSlots h'->Q () {s with heap:=h'}):wpAny M A (leaving env (.ref e)) Q E s:=by
 refine SD X λoe vs a0 he hc hd h1 h0=>?_;clear X
 have K':=pushX K F hf hk
 have eL:e≠L:=by
  rintro rfl
  refine ZR F.ns λo es ep ho hdd _=>?_
  rw[he] at ho
  replace ho:=oS ho;subst ho
  rw[hd] at hdd
  cases hdd
 have eF:∀b∈(env::outer).filterMap (·.frame),∃o,s.heap.get? b=some o/\∀vs,o.data≠.fields vs:=λb hb=>(K'.frames.mem hb).2
 have ho':e∉(env::outer).filterMap (·.frame):=λhm=>by
  refine b7 (eF e hm) λo h1 h2=>?_
  rw[he] at h1
  replace h1:=oS h1;subst h1
  exact h2 vs hd
 let as:=e::(env::outer).filterMap (·.frame)
 have nb:base.get? e=none:=kD K.stays ge
 have stB:base.StaysIn (hideAll s.heap as):=λb o q=>hideAll_get _ (K'.stays b o q) λhm=>by
  rcases bX.mp hm with rfl|hm
  ·rw[nb] at q;exact b5 q
  ·rw[(K'.frames.mem hm).1] at q;exact b5 q
 have hin:∀env'∈(env::outer),∀b,env'.frame=some b->b∈as:=λenv' h' b hb=>List.mem_cons_of_mem _ (List.mem_filterMap.mpr ⟨env',h',hb⟩)
 refine wpAny_leaving_firstW (base:=hideAll s.heap as) (a0:=a0) (oe:=oe) (vs:=vs) hA (funFrames_hide K'.frames hin) hf he (λb o q=>of_hideAll _ q) (hideAll_none _ (.head _)) hd h1 h0 λh' hL=>?_
 refine zO hL λk1 z1 k3 k4=>?_;clear hL
 refine jN z1 λ_ _ k2=>?_;clear z1
 refine hQ h' ⟨hideAll s.heap as,a0,stB,λb o q nm=>hideAll_get _ (F.keep b o q) λhm=>?_,λq hq=>⟨hideAll_get _ (N q hq).1 λhm=>?_,(N q hq).2.2,kD K.stays (N q hq).2.2⟩,k1,hideAll_none _ (.head _),k2,hc▸k3⟩ ((Heap.UpToSlots.of_keeps F.keep).trans k4)
 ·rcases bX.mp hm with rfl|hm
  ·rw[ge] at q;exact b5 q
  ·rcases gZ hf hm with z|z
   ·rw[z,oY F] at q;exact b5 q
   ·exact nm z
 ·rcases bX.mp hm with z|hm
  ·exact ne q hq z
  ·rcases gZ hf hm with z|z
   ·exact(N q hq).2.1 z
   ·refine b7 ((K.frames.mem z).2) λo ho _=>?_
    rw[(N q hq).2.2] at ho;exact b5 ho
theorem QS (K:Below aZ base outer g) (hA:A.frames=some (env::outer)) (hf:env.frame=some L) (F:Fr g L g₂ m) (R:Rsd base g₂ (env::outer) e C aA s.heap) (hsm:g₂.UpToSlots s.heap)
  (hQ:∀h',Rsd base g outer e C aA h'->g.UpToSlots h'->Q () {s with heap:=h'}):wpAny M A (leaving env (.ref e)) Q E s:=by
 refine kS R λB a0 hB hBG hl hfl=>?_;clear R
 exact wpAny_leaves_onW hA hf hfl λh' x1 x2=>hQ h' ⟨B,a0,hB,λb o q nm=>hBG b o (F.keep b o q) λhm=>by
  rcases gZ hf hm with z|z
  ·rw[z,oY F] at q;exact b5 q
  ·exact nm z,λq hq=>⟨(hl q hq).1,kD F.keep (hl q hq).2.1,(hl q hq).2.2⟩,x1⟩ ((Heap.UpToSlots.of_keeps F.keep).trans (hsm.trans x2))
theorem sR {G:Heap} (K:Below aZ base outer g) (hf:env.frame=some L) (F:Fr g L G m) (R:Rsd base G (env::outer) e C aA s.heap) (hsm:G.UpToSlots s.heap):
  ∃g',KtsTurn (outer.filterMap (·.frame)) g g'/\Fr g' L s.heap m/\Below aZ base outer g'/\News g' L s.heap aA:=by
 refine kS R λB a0 hB hBG hl hfl=>?_;clear R
 have hL:B.get? L=none:=by
  refine jN hfl.2.2.1 λ_ z1 _=>?_
  refine fP z1 λL' _ hf' hn' _=>?_;clear z1
  obtain rfl:L=L':=bS (hf.symm.trans hf')
  exact hn'
 obtain⟨T,S⟩:=kts_turn_at (h:=s.heap) (fs:=outer.filterMap (·.frame)) (g:=g)
  (λb hb=>by
   obtain⟨_,z1⟩:=K.frames.mem hb
   refine b7 z1 λo ho _=>?_;clear z1
   exact⟨o,ho⟩)
  (λb o q nm=>hfl.1 b o (hBG b o (F.keep b o q) (λhm=>by
   rcases gZ hf hm with z|z
   ·rw[z,oY F] at q;exact b5 q
   ·exact nm z)))
  (λb o q hm=>by
   obtain⟨_,z1⟩:=K.frames.mem hm
   refine b7 z1 λo' ho' hd=>?_;clear z1
   rw[q] at ho'
   replace ho':=oS ho';rw[<-ho'] at hd
   exact hsm b o (F.keep b o q) hd)
 refine⟨_,T,⟨hsm.ns F.ns,S,by rw[T.size];exact F.above⟩,⟨K.stack,λb o q=>T.other b o (K.stays b o q) (λhm=>by
  rw[(K.frames.mem hm).1] at q
  exact b5 q),K.frames.of_keeps λb o q _=>?_⟩,λq hq=>⟨hfl.1 _ _ (hl q hq).1,λz=>?_,T.none_ _ (kD F.keep (hl q hq).2.1)⟩⟩
 ·obtain⟨sl,hs⟩:=T.up q
  exact⟨_,hs,rfl⟩
 ·have:=(hl q hq).1
  rw[z,hL] at this
  exact b5 this
theorem LG {G:Heap} (hA:A.frames=some (env::outer)) (hf:env.frame=some L) (R:Rsd base G (env::outer) e C aA s.heap) (hsm:G.UpToSlots s.heap)
  (k:∀h',Rsd base G (env::outer) e C aA h'->G.UpToSlots h'->Q () {s with heap:=h'}):
  wpAny M A (noteFrame (.ref e) env) (λ_ s₂=>wpAny M A (setFlight (.ref e) none) Q E s₂) E s:=by
 refine kS R λB a0 hB hBG hl hfl=>?_;clear R
 refine wpAny_looks_onW hA hf hfl λh₄ hheld₄ hsm₄=>?_
 refine wpAny_landsW hheld₄ λh₅ hheld hsm₅=>?_
 exact k h₅ ⟨B,a0,hB,hBG,hl,hheld⟩ (hsm.trans (hsm₄.trans hsm₅))
theorem PP {G:Heap} (R:Rsd base G (env::outer) e C aA s.heap) (hsm:G.UpToSlots s.heap)
  (k:∀h',Rsd base G (env::outer) e C aA h'->G.UpToSlots h'->Q () {s with heap:=h'}):wpAny M A (setFlight (.ref e) none) Q E s:=by
 refine kS R λB a0 hB hBG hl hfl=>?_;clear R
 exact lands_againW hfl λh₅ hheld hsm₅=>k h₅ ⟨B,a0,hB,hBG,hl,hheld⟩ (hsm.trans hsm₅)
theorem Rsd.there {G:Heap} {l:List Env} {h:Heap} (R:Rsd base G l e C aA h):∃oe,h.get? e=some oe/\oe.cls=.ref C:=by
 refine kS R λB a0 _ _ _ hfl=>?_;clear R
 exact hfl.there
end
noncomputable def uD (o:Obj):ClassData:=match o.data with
 | .cls cd=>cd
 |_=>default
def pOf (o:Obj):ExP:=⟨(uD o).name,(uD o).qualname,(uD o).ns,(uD o).bases,(uD o).slotNames,(uD o).subclasses,(uD o).abstract,(uD o).collection,o.dict,o.slots.toList.getD 0 none,o.slots.toList.getD 1 none,o.slots.toList.getD 2 none,o.slots.toList.getD 3 none,o.slots.toList.getD 5 none⟩
def excIn (K:Frag) (C:Addr) (bm:List Value):Prop:=∃o,K.lookup C=some o/\o=oJ (pOf o) C bm true "Exception.__new__"
theorem iB {K:Frag} {h:Heap} {C:Addr} {bm:List Value} (X:K.In h) (q:excIn K C bm):∃P:ExP,
  h.get? C=some (oJ P C bm true "Exception.__new__"):=
 let ⟨o,a,b⟩:=q
 ⟨pOf o,b▸X _ _ a⟩
section
variable {M:Model} {A:Around} {E:Value->Shared->Prop}
variable {P:ExP} {C:Addr} {bm:List Value} {hdct:Bool} {newId:String}
variable {P':ExP} {D:Addr} {bm':List Value} {hdct':Bool} {newId':String}
theorem pV {h:Heap} {g:Array GenState} {d:Drawn} {t:Nat} {os:OsState} {e:Addr} {oe:Obj} {Q:Bool->Shared->Prop}
  (hC:h.get? C=some (oJ P C bm hdct newId)) (hD:h.get? D=some (oJ P' D bm' hdct' newId')) (he:h.get? e=some oe) (hcls:oe.cls=.ref C) (hbase:bm'.contains (.type "BaseException")=true)
  (hno:(Value.ref C::bm).contains (.ref D)=false) (hq:Q false ⟨h,g,d,t,os⟩):wpAny M A (excMatches (.ref e) (.ref D)) Q E ⟨h,g,d,t,os⟩:=by
 have hcB:(Value.ref D::bm').contains (.type "BaseException")=true:=by rw[List.contains_cons,hbase,Bool.or_true]
 have f:=tc_notTuple
 unfold excMatches
 repeat (first|(with_reducible refine wpAny_loadPart_at he ?_;rw[hcls])|with_reducible refine wpAny_loadPart_at hD ?_|(with_reducible refine wpAny_isSubtype_exc hD ?_;rw[hcB])|(with_reducible refine wpAny_isSubtype_exc hC ?_;rw[hno])|wp_step)
 exact hq
end
section
variable {w:World} {prog:Program} {aZ A:Around} {E:Value->Shared->Prop} {s:Shared} {base g G:Heap} {outer:List Env} {env:Env} {L e C:Addr} {m:Str->Option Value} {aA:List (Addr×Obj)}
 {p:Program} {loose:List Str} {aC:ExcName->Option Value} {mg mb:Str->Option Value} {x:Str} {b₀:Stmt} {suite:List Stmt} {pos np:Pos} {rest:List ExceptHandler} {Q:Flow->Shared->Prop} {D:Addr} {bmC bmD:List Value}
theorem mS (K':Below aZ base outer g) (hA:A.frames=some (env::outer)) (hf:env.frame=some L) (hk:env.scope.kind=.function) (hg:env.globals=mainGlobals) (F:Fr g L G m) (R:Rsd base G (env::outer) e C aA s.heap) (hsm:G.UpToSlots s.heap)
  (XB:(K w.params).In base) (TB:Top p loose aC mg mb base) (ex:nsIn (K w.params) mainGlobals x=some (some (.ref D))) (hC:excIn (K w.params) C bmC) (hD:excIn (K w.params) D bmD) (hbase:bmD.contains (.type "BaseException")=true) (hno:(Value.ref C::bmC).contains (.ref D)=false)
  (hx:env.kindOf x=some .globalImplicit) (hd:(x==("__debug__":Str))=false) {nm:Option Str}
  (k:wpAny (model prog w) A (handleBy (.ref e) env rest) Q E s):
  wpAny (model prog w) A (handleBy (.ref e) env (.ExceptHandler (some (.Name x np)) nm (b₀::suite) pos::rest)) Q E s:=by
 refine DU (sR K' hf F R hsm) λg' T' F' B' N'=>?_
 have X':(K w.params).In g':=XB.keeps B'.stays
 refine b7 R.there λoe he hc=>?_
 obtain⟨_,hCo⟩:=iB (X'.keeps F'.keep) hC
 obtain⟨_,hDo⟩:=iB (X'.keeps F'.keep) hD
 refine wpAny_handleBy_cons (codeAny_handlers_test (nameG_K F' X' (topRead_of (TB.keeps B'.stays)) ex ?_ hg hk hx hd)) (by intro q;cases q)
 exact pV hCo hDo he hc hbase hno k
theorem kW (K':Below aZ base outer g) (hA:A.frames=some (env::outer)) (hf:env.frame=some L) (hk:env.scope.kind=.function) (hg:env.globals=mainGlobals) (F:Fr g L G m) (R:Rsd base G (env::outer) e C aA s.heap) (hsm:G.UpToSlots s.heap)
  (XB:(K w.params).In base) (TB:Top p loose aC mg mb base) (ex:nsIn (K w.params) mainGlobals x=some (some (.ref C))) (hC:excIn (K w.params) C bmC) (hbase:bmC.contains (.type "BaseException")=true)
  (hx:env.kindOf x=some .globalImplicit) (hd:(x==("__debug__":Str))=false)
  (hE:PassesOwnAt (model prog w) (A.mark (some (.ref e))) A env E)
  (k:∀h' g',KtsTurn (outer.filterMap (·.frame)) g g'->Fr g' L h' m->Below aZ base outer g'->News g' L h' aA->
   wpAny (model prog w) (A.mark (some (.ref e))) (execs (b₀::suite) env) Q E {s with heap:=h'}):
  wpAny (model prog w) A (handleBy (.ref e) env (.ExceptHandler (some (.Name x np)) none (b₀::suite) pos::rest)) Q E s:=by
 refine DU (sR K' hf F R hsm) λg' T' F' B' N'=>?_
 have X':(K w.params).In g':=XB.keeps B'.stays
 refine b7 R.there λoe he hc=>?_
 obtain⟨_,hCo⟩:=iB (X'.keeps F'.keep) hC
 refine wpAny_handleBy_cons (codeAny_handlers_test (nameG_K F' X' (topRead_of (TB.keeps B'.stays)) ex ?_ hg hk hx hd)) (by intro q;cases q)
 refine wpAny_excMatches_sub_self hCo he hc hbase (codeAny_handlers_suite ?_)
 refine PP R hsm λh' R' hsm'=>?_
 refine DU (sR (s:={s with heap:=h'}) K' hf F R' hsm') λg2 T2 F2 B2 N2=>?_
 exact wpAny_passesOwnAt hE (k h' g2 T2 F2 B2 N2)
end
section
variable {M:Model} {A:Around} {E:Value->Shared->Prop} {env:Env}
variable {P:ExP} {C:Addr} {bm:List Value} {hdct:Bool} {newId:String}
theorem rG {x:Sem Value} (hh:A.handled=none)
  (h:wpAny M A x (λv s₁=>∃e oe bm P hdct newId,v=.ref e/\s₁.heap.get? C=some (oJ P C bm hdct newId)/\bm.contains (.type "BaseException")=true/\
   s₁.heap.get? e=some oe/\iF C oe/\E (.ref e) s₁) E s):
  wpAny M A (raiseStmt env (some x) none) Q E s:=by
 refine wpAny_bind (wpAny_mono h (λv s₁ h₁=>?_) λ_ _ x=>x)
 refine q66 h₁ λe oe bm P hdct newId z1 hC hbase he z2 hE=>?_;clear h₁;subst z1
 obtain⟨hcls,z3⟩:=z2
 obtain⟨tp,hdt⟩:=z3
 obtain⟨oc,odc,odt,osl⟩:=oe
 dsimp only at hcls hdt
 rw[hcls] at he;rw[hdt] at he
 have hcB:(Value.ref C::bm).contains (.type "BaseException")=true:=by rw[List.contains_cons,hbase,Bool.or_true]
 obtain⟨hp,g,d,tk,os⟩:=s₁
 repeat (first|with_reducible refine wpAny_loadPart_at he ?_|with_reducible refine wpAny_loadPart_at hC ?_|(with_reducible refine wpAny_isSubtype_exc hC ?_;rw[hcB])|wp_step)
 exact wpAny_raiseNew_none hh hE
end
end Mine.X
namespace Mine.R
open Mine
theorem AG {l:List Value} (h:l.length=1):∃a,l=[a]:=by
 cases l with
 |nil=>cases h
 |cons a r=>exact⟨a,by rw[bv (Nat.succ.inj h)]⟩
theorem VR {l:List Value} {n:Nat} (h:l.length=n+1):∃a r,l=a::r/\r.length=n:=by
 cases l with
 |nil=>cases h
 |cons a r=>exact⟨a,r,rfl,Nat.succ.inj h⟩
theorem pK {l:List Value} (h:l.length=2):∃x0 x1,l=[x0,x1]:=by
 refine iJ (VR h) λa r z1 hr=>?_;subst z1
 obtain⟨x1,rfl⟩:=AG hr
 exact⟨a,x1,rfl⟩
theorem AH {l:List Value} (h:l.length=3):∃x0 x1 x2,l=[x0,x1,x2]:=by
 refine iJ (VR h) λa r z1 hr=>?_;subst z1
 refine q21 (pK hr) λx1 x2 z1=>?_;subst z1
 exact⟨a,x1,x2,rfl⟩
theorem LA {l:List Value} (h:l.length=4):∃x0 x1 x2 x3,l=[x0,x1,x2,x3]:=by
 refine iJ (VR h) λa r z1 hr=>?_;subst z1
 refine q31 (AH hr) λx1 x2 x3 z1=>?_;subst z1
 exact⟨a,x1,x2,x3,rfl⟩
theorem ar5 {l:List Value} (h:l.length=5):∃x0 x1 x2 x3 x4,l=[x0,x1,x2,x3,x4]:=by
 refine iJ (VR h) λa r z1 hr=>?_;subst z1
 refine q41 (LA hr) λx1 x2 x3 x4 z1=>?_;subst z1
 exact⟨a,x1,x2,x3,x4,rfl⟩
theorem ar6 {l:List Value} (h:l.length=6):∃x0 x1 x2 x3 x4 x5,l=[x0,x1,x2,x3,x4,x5]:=by
 refine iJ (VR h) λa r z1 hr=>?_;subst z1
 refine q51 (ar5 hr) λx1 x2 x3 x4 x5 z1=>?_;subst z1
 exact⟨a,x1,x2,x3,x4,x5,rfl⟩
theorem cA {r:FRow} (name:Str) (params:Arguments) (dV pm:Value) (dv:List Value) (h1:(K w.params).lookup r.f=some ⟨.type "function",none,.func (fnOf name r.qual params r.body r.scope dV .none .none pm none r.cdv .none),#[]⟩) (h2:∀ρ,RVs ρ r.dfl dv)
  (h3:∀(s:Shared) (args:List Value),(K w.params).In s.heap->args.length=r.ar->BindsTo s (fnOf name r.qual params r.body r.scope dV .none .none pm none r.cdv .none) ⟨args,[]⟩ (r.names.zip (args++dv))) (hc:codeIn (K w.params) r.cdv r.qual=true)
  (hn:(∀y∈r.names,r.scope.names.lookup y=some .local)/\r.names.Nodup/\r.names.length=r.ar+r.dfl.length/\r.scope.isCoroutine=false/\r.scope.isGenerator=false/\r.scope.kind=.function) (he:((cellsFrom 0 r.scope.names []).map (·.1)).Nodup):RowOk w r:=
 ⟨⟨name,params,dV,.none,.none,pm,.none,.type "function",none,none,#[],dv,h1,h2,h3⟩,hc,hn.1,hn.2.1,hn.2.2.1,hn.2.2.2.1,hn.2.2.2.2.1,hn.2.2.2.2.2,he⟩
def IL:FRow:=⟨333,2,"Affine.__init__",JT,EB,(.ref 332),["self","worth","plus","minus"],[.str "",.str ""]⟩
theorem BY (w:World):RowOk w IL:=cA "__init__" D3 (.ref 326) (.str "octetmint.expressions" 412) [.str "" 615,.str "" 616] (by kernel_rfl) (λρ=>⟨⟨_,rfl⟩,⟨⟨_,rfl⟩,trivial⟩⟩) (λs args hK hl=>by obtain⟨x0,x1,rfl⟩:=pK hl;exact binds_K (T:=326) (o:=(.mk (.type "tuple") none (.seq #[.str "" 615,.str "" 616] 0) #[])) hK rfl (by kernel_rfl) rfl rfl rfl) (by kernel_rfl) (by decide +kernel) (by decide +kernel)
def IM:FRow:=⟨333,3,"Affine.__init__",JT,EB,(.ref 332),["self","worth","plus","minus"],[.str ""]⟩
theorem BZ (w:World):RowOk w IM:=cA "__init__" D3 (.ref 326) (.str "octetmint.expressions" 412) [.str "" 616] (by kernel_rfl) (λρ=>⟨⟨_,rfl⟩,trivial⟩) (λs args hK hl=>by obtain⟨x0,x1,x2,rfl⟩:=AH hl;exact binds_K (T:=326) (o:=(.mk (.type "tuple") none (.seq #[.str "" 615,.str "" 616] 0) #[])) hK rfl (by kernel_rfl) rfl rfl rfl) (by kernel_rfl) (by decide +kernel) (by decide +kernel)
def IN:FRow:=⟨333,4,"Affine.__init__",JT,EB,(.ref 332),["self","worth","plus","minus"],[]⟩
theorem B1 (w:World):RowOk w IN:=cA "__init__" D3 (.ref 326) (.str "octetmint.expressions" 412) [] (by kernel_rfl) (λρ=>trivial) (λs args hK hl=>by obtain⟨x0,x1,x2,x3,rfl⟩:=LA hl;exact binds_K (T:=326) (o:=(.mk (.type "tuple") none (.seq #[.str "" 615,.str "" 616] 0) #[])) hK rfl (by kernel_rfl) rfl rfl rfl) (by kernel_rfl) (by decide +kernel) (by decide +kernel)
def IQ:FRow:=⟨347,1,"Affine.is_number",vH,V3,(.ref 346),["self"],[]⟩
theorem B4 (w:World):RowOk w IQ:=cA "is_number" UQ .none (.str "octetmint.expressions" 412) [] (by kernel_rfl) (λρ=>trivial) (λs args hK hl=>by obtain⟨x0,rfl⟩:=AG hl;exact BindsTo.of_eq rfl) (by kernel_rfl) (by decide +kernel) (by decide +kernel)
def IR:FRow:=⟨361,1,"Affine.negate",Z2,V4,(.ref 360),["self"],[]⟩
theorem B5 (w:World):RowOk w IR:=cA "negate" UR .none (.str "octetmint.expressions" 412) [] (by kernel_rfl) (λρ=>trivial) (λs args hK hl=>by obtain⟨x0,rfl⟩:=AG hl;exact BindsTo.of_eq rfl) (by kernel_rfl) (by decide +kernel) (by decide +kernel)
def IS:FRow:=⟨368,2,"Affine.add",Z3,V5,(.ref 367),["self","other"],[]⟩
theorem B6 (w:World):RowOk w IS:=cA "add" US .none (.str "octetmint.expressions" 412) [] (by kernel_rfl) (λρ=>trivial) (λs args hK hl=>by obtain⟨x0,x1,rfl⟩:=pK hl;exact BindsTo.of_eq rfl) (by kernel_rfl) (by decide +kernel) (by decide +kernel)
def IT:FRow:=⟨387,3,"affine_of",Z4,V6,(.ref 386),["worth","pluses","minuses"],[]⟩
theorem B8 (w:World):RowOk w IT:=cA "affine_of" UT .none (.str "octetmint.expressions" 412) [] (by kernel_rfl) (λρ=>trivial) (λs args hK hl=>by obtain⟨x0,x1,x2,rfl⟩:=AH hl;exact BindsTo.of_eq rfl) (by kernel_rfl) (by decide +kernel) (by decide +kernel)
def IK:FRow:=⟨318,1,"left_spine",Z1,V0,(.ref 317),["node"],[]⟩
theorem BX (w:World):RowOk w IK:=cA "left_spine" UO .none (.str "octetmint.expressions" 412) [] (by kernel_rfl) (λρ=>trivial) (λs args hK hl=>by obtain⟨x0,rfl⟩:=AG hl;exact BindsTo.of_eq rfl) (by kernel_rfl) (by decide +kernel) (by decide +kernel)
def IU:FRow:=⟨402,2,"Scope.__init__",Z5,V7,(.ref 401),["self","equates"],[]⟩
theorem B9 (w:World):RowOk w IU:=cA "__init__" UU (.ref 395) (.str "octetmint.expressions" 412) [] (by kernel_rfl) (λρ=>trivial) (λs args hK hl=>by obtain⟨x0,x1,rfl⟩:=pK hl;exact binds_K (T:=395) (o:=(.mk (.type "tuple") none (.seq #[.none] 0) #[])) hK rfl (by kernel_rfl) rfl rfl rfl) (by kernel_rfl) (by decide +kernel) (by decide +kernel)
def IV:FRow:=⟨416,2,"Scope.find",Z6,V8,(.ref 415),["self","name"],[]⟩
theorem CB (w:World):RowOk w IV:=cA "find" UV .none (.str "octetmint.expressions" 412) [] (by kernel_rfl) (λρ=>trivial) (λs args hK hl=>by obtain⟨x0,x1,rfl⟩:=pK hl;exact BindsTo.of_eq rfl) (by kernel_rfl) (by decide +kernel) (by decide +kernel)
def IW:FRow:=⟨423,2,"Scope.settled",Z7,V9,(.ref 422),["self","affine"],[]⟩
theorem CC (w:World):RowOk w IW:=cA "settled" UW .none (.str "octetmint.expressions" 412) [] (by kernel_rfl) (λρ=>trivial) (λs args hK hl=>by obtain⟨x0,x1,rfl⟩:=pK hl;exact BindsTo.of_eq rfl) (by kernel_rfl) (by decide +kernel) (by decide +kernel)
def IX:FRow:=⟨458,3,"combined",Z8,WA,(.ref 457),["sign","left","right"],[]⟩
theorem CD (w:World):RowOk w IX:=cA "combined" UX .none (.str "octetmint.expressions" 412) [] (by kernel_rfl) (λρ=>trivial) (λs args hK hl=>by obtain⟨x0,x1,x2,rfl⟩:=AH hl;exact BindsTo.of_eq rfl) (by kernel_rfl) (by decide +kernel) (by decide +kernel)
def IY:FRow:=⟨465,2,"turned",Z9,WB,(.ref 464),["sign","affine"],[]⟩
theorem CE (w:World):RowOk w IY:=cA "turned" UY .none (.str "octetmint.expressions" 412) [] (by kernel_rfl) (λρ=>trivial) (λs args hK hl=>by obtain⟨x0,x1,rfl⟩:=pK hl;exact BindsTo.of_eq rfl) (by kernel_rfl) (by decide +kernel) (by decide +kernel)
def I2:FRow:=⟨473,3,"evaluate",OY,NN,(.ref 472),["node","scope","here"],[]⟩
theorem CH (w:World):RowOk w I2:=cA "evaluate" NM (.ref 466) (.str "octetmint.expressions" 412) [] (by kernel_rfl) (λρ=>trivial) (λs args hK hl=>by obtain⟨x0,x1,x2,rfl⟩:=AH hl;exact binds_K (T:=466) (o:=(.mk (.type "tuple") none (.seq #[.str "" 787] 0) #[])) hK rfl (by kernel_rfl) rfl rfl rfl) (by kernel_rfl) (by decide +kernel) (by decide +kernel)
def IZ:FRow:=⟨473,2,"evaluate",OY,NN,(.ref 472),["node","scope","here"],[.str ""]⟩
theorem CG (w:World):RowOk w IZ:=cA "evaluate" NM (.ref 466) (.str "octetmint.expressions" 412) [.str "" 787] (by kernel_rfl) (λρ=>⟨⟨_,rfl⟩,trivial⟩) (λs args hK hl=>by obtain⟨x0,x1,rfl⟩:=pK hl;exact binds_K (T:=466) (o:=(.mk (.type "tuple") none (.seq #[.str "" 787] 0) #[])) hK rfl (by kernel_rfl) rfl rfl rfl) (by kernel_rfl) (by decide +kernel) (by decide +kernel)
def JN:FRow:=⟨921,2,"Collector.worth",aAE,WV,(.ref 920),["self","node"],[]⟩
theorem C2 (w:World):RowOk w JN:=cA "worth" VI .none (.str "octetmint.sections" 926) [] (by kernel_rfl) (λρ=>trivial) (λs args hK hl=>by obtain⟨x0,x1,rfl⟩:=pK hl;exact BindsTo.of_eq rfl) (by kernel_rfl) (by decide +kernel) (by decide +kernel)
def IG:FRow:=⟨221,2,"Number.__init__",ZY,VW,(.ref 220),["self","worth"],[]⟩
theorem BS (w:World):RowOk w IG:=cA "__init__" UK .none (.str "octetmint.expressions" 412) [] (by kernel_rfl) (λρ=>trivial) (λs args hK hl=>by obtain⟨x0,x1,rfl⟩:=pK hl;exact BindsTo.of_eq rfl) (by kernel_rfl) (by decide +kernel) (by decide +kernel)
def IH:FRow:=⟨247,2,"Symbol.__init__",O0,VX,(.ref 246),["self","name"],[]⟩
theorem BU (w:World):RowOk w IH:=cA "__init__" UL .none (.str "octetmint.expressions" 412) [] (by kernel_rfl) (λρ=>trivial) (λs args hK hl=>by obtain⟨x0,x1,rfl⟩:=pK hl;exact BindsTo.of_eq rfl) (by kernel_rfl) (by decide +kernel) (by decide +kernel)
def II:FRow:=⟨273,3,"Unary.__init__",ZZ,VY,(.ref 272),["self","sign","body"],[]⟩
theorem BV (w:World):RowOk w II:=cA "__init__" UM .none (.str "octetmint.expressions" 412) [] (by kernel_rfl) (λρ=>trivial) (λs args hK hl=>by obtain⟨x0,x1,x2,rfl⟩:=AH hl;exact BindsTo.of_eq rfl) (by kernel_rfl) (by decide +kernel) (by decide +kernel)
def IJ:FRow:=⟨299,4,"Binary.__init__",Z0,VZ,(.ref 298),["self","sign","left","right"],[]⟩
theorem BW (w:World):RowOk w IJ:=cA "__init__" UN .none (.str "octetmint.expressions" 412) [] (by kernel_rfl) (λρ=>trivial) (λs args hK hl=>by obtain⟨x0,x1,x2,x3,rfl⟩:=LA hl;exact BindsTo.of_eq rfl) (by kernel_rfl) (by decide +kernel) (by decide +kernel)
def I4:FRow:=⟨494,3,"Statement.__init__",OZ,WD,(.ref 493),["self","way","at"],[]⟩
theorem CJ (w:World):RowOk w I4:=cA "__init__" U0 .none (.str "octetmint.source" 811) [] (by kernel_rfl) (λρ=>trivial) (λs args hK hl=>by obtain⟨x0,x1,x2,rfl⟩:=AH hl;exact BindsTo.of_eq rfl) (by kernel_rfl) (by decide +kernel) (by decide +kernel)
def I6:FRow:=⟨539,4,"Equate.__init__",aA2,WF,(.ref 538),["self","name","node","at"],[]⟩
theorem CL (w:World):RowOk w I6:=cA "__init__" U2 .none (.str "octetmint.source" 811) [] (by kernel_rfl) (λρ=>trivial) (λs args hK hl=>by obtain⟨x0,x1,x2,x3,rfl⟩:=LA hl;exact BindsTo.of_eq rfl) (by kernel_rfl) (by decide +kernel) (by decide +kernel)
def I5:FRow:=⟨515,4,"Deed.__init__",aA1,WE,(.ref 514),["self","word","args","at"],[]⟩
theorem CK (w:World):RowOk w I5:=cA "__init__" U1 .none (.str "octetmint.source" 811) [] (by kernel_rfl) (λρ=>trivial) (λs args hK hl=>by obtain⟨x0,x1,x2,x3,rfl⟩:=LA hl;exact BindsTo.of_eq rfl) (by kernel_rfl) (by decide +kernel) (by decide +kernel)
def I3:FRow:=⟨480,1,"names_in",aA0,WC,(.ref 479),["node"],[]⟩
theorem CI (w:World):RowOk w I3:=cA "names_in" UZ .none (.str "octetmint.expressions" 412) [] (by kernel_rfl) (λρ=>trivial) (λs args hK hl=>by obtain⟨x0,rfl⟩:=AG hl;exact BindsTo.of_eq rfl) (by kernel_rfl) (by decide +kernel) (by decide +kernel)
def I7:FRow:=⟨563,1,"solve_equates",aA3,WG,(.ref 562),["rows"],[]⟩
theorem CM (w:World):RowOk w I7:=cA "solve_equates" U3 .none (.str "octetmint.source" 811) [] (by kernel_rfl) (λρ=>trivial) (λs args hK hl=>by obtain⟨x0,rfl⟩:=AG hl;exact BindsTo.of_eq rfl) (by kernel_rfl) (by decide +kernel) (by decide +kernel)
def JG:FRow:=⟨813,1,"Program.__init__",vH,WN,(.ref 812),["self"],[]⟩
theorem CT (w:World):RowOk w JG:=cA "__init__" VA .none (.str "octetmint.sections" 926) [] (by kernel_rfl) (λρ=>trivial) (λs args hK hl=>by obtain⟨x0,rfl⟩:=AG hl;exact BindsTo.of_eq rfl) (by kernel_rfl) (by decide +kernel) (by decide +kernel)
def JH:FRow:=⟨820,2,"Program.section",aA7,WO,(.ref 819),["self","name"],[]⟩
theorem CU (w:World):RowOk w JH:=cA "section" VB .none (.str "octetmint.sections" 926) [] (by kernel_rfl) (λρ=>trivial) (λs args hK hl=>by obtain⟨x0,x1,rfl⟩:=pK hl;exact BindsTo.of_eq rfl) (by kernel_rfl) (by decide +kernel) (by decide +kernel)
def JD:FRow:=⟨752,2,"Section.__init__",O0,WK,(.ref 751),["self","name"],[]⟩
theorem CQ (w:World):RowOk w JD:=cA "__init__" U7 .none (.str "octetmint.sections" 926) [] (by kernel_rfl) (λρ=>trivial) (λs args hK hl=>by obtain⟨x0,x1,rfl⟩:=pK hl;exact BindsTo.of_eq rfl) (by kernel_rfl) (by decide +kernel) (by decide +kernel)
def JK:FRow:=⟨879,2,"Collector.__init__",aAA,WR,(.ref 878),["self","statements"],[]⟩
theorem CY (w:World):RowOk w JK:=cA "__init__" VE .none (.str "octetmint.sections" 926) [] (by kernel_rfl) (λρ=>trivial) (λs args hK hl=>by obtain⟨x0,x1,rfl⟩:=pK hl;exact BindsTo.of_eq rfl) (by kernel_rfl) (by decide +kernel) (by decide +kernel)
def JA:FRow:=⟨577,3,"Piece.__init__",OZ,WH,(.ref 576),["self","way","at"],[]⟩
theorem CN (w:World):RowOk w JA:=cA "__init__" U4 .none (.str "octetmint.sections" 926) [] (by kernel_rfl) (λρ=>trivial) (λs args hK hl=>by obtain⟨x0,x1,x2,rfl⟩:=AH hl;exact BindsTo.of_eq rfl) (by kernel_rfl) (by decide +kernel) (by decide +kernel)
def JB:FRow:=⟨606,4,"Octets.__init__",aA4,WI,(.ref 605),["self","octets","fixups","at"],[]⟩
theorem CO (w:World):RowOk w JB:=cA "__init__" U5 (.ref 599) (.str "octetmint.sections" 926) [] (by kernel_rfl) (λρ=>trivial) (λs args hK hl=>by obtain⟨x0,x1,x2,x3,rfl⟩:=LA hl;exact binds_K (T:=599) (o:=(.mk (.type "tuple") none (.seq #[.none] 0) #[])) hK rfl (by kernel_rfl) rfl rfl rfl) (by kernel_rfl) (by decide +kernel) (by decide +kernel)
def JF:FRow:=⟨773,2,"Section.add",aA6,WM,(.ref 772),["self","piece"],[]⟩
theorem CS (w:World):RowOk w JF:=cA "add" U9 .none (.str "octetmint.sections" 926) [] (by kernel_rfl) (λρ=>trivial) (λs args hK hl=>by obtain⟨x0,x1,rfl⟩:=pK hl;exact BindsTo.of_eq rfl) (by kernel_rfl) (by decide +kernel) (by decide +kernel)
def IE:FRow:=⟨158,6,"Fixup.__init__",ZX,VU,(.ref 157),["self","at","width","name","worth","way"],[]⟩
theorem BQ (w:World):RowOk w IE:=cA "__init__" UI .none (.str "octetmint.encoder" 358) [] (by kernel_rfl) (λρ=>trivial) (λs args hK hl=>by obtain⟨x0,x1,x2,x3,x4,x5,rfl⟩:=ar6 hl;exact BindsTo.of_eq rfl) (by kernel_rfl) (by decide +kernel) (by decide +kernel)
def JI:FRow:=⟨841,3,"Program.add_difference",aA8,WP,(.ref 840),["self","one","other"],[]⟩
theorem CV (w:World):RowOk w JI:=cA "add_difference" VC .none (.str "octetmint.sections" 926) [] (by kernel_rfl) (λρ=>trivial) (λs args hK hl=>by obtain⟨x0,x1,x2,rfl⟩:=AH hl;exact BindsTo.of_eq rfl) (by kernel_rfl) (by decide +kernel) (by decide +kernel)
def r949_3:FRow:=⟨949,3,"Collector.open_name",TG,PU,(.ref 948),["self","affine","at"],[]⟩
theorem r7 (w:World):RowOk w r949_3:=cA "open_name" PO .none (.str "octetmint.sections" 926) [] (by kernel_rfl) (λρ=>trivial) (λs args hK hl=>by obtain⟨x0,x1,x2,rfl⟩:=AH hl;exact BindsTo.of_eq rfl) (by kernel_rfl) (by decide +kernel) (by decide +kernel)
def JJ:FRow:=⟨867,1,"data_width",aA9,WQ,(.ref 866),["word"],[]⟩
theorem CW (w:World):RowOk w JJ:=cA "data_width" VD .none (.str "octetmint.sections" 926) [] (by kernel_rfl) (λρ=>trivial) (λs args hK hl=>by obtain⟨x0,rfl⟩:=AG hl;exact BindsTo.of_eq rfl) (by kernel_rfl) (by decide +kernel) (by decide +kernel)
def JL:FRow:=⟨886,2,"Collector.lay",aAB,WS,(.ref 885),["self","statement"],[]⟩
theorem CZ (w:World):RowOk w JL:=cA "lay" VF .none (.str "octetmint.sections" 926) [] (by kernel_rfl) (λρ=>trivial) (λs args hK hl=>by obtain⟨x0,x1,rfl⟩:=pK hl;exact BindsTo.of_eq rfl) (by kernel_rfl) (by decide +kernel) (by decide +kernel)
def JM:FRow:=⟨914,4,"Collector.deed",aAD,WU,(.ref 913),["self","word","args","at"],[]⟩
theorem C0 (w:World):RowOk w JM:=cA "deed" VH .none (.str "octetmint.sections" 926) [] (by kernel_rfl) (λρ=>trivial) (λs args hK hl=>by obtain⟨x0,x1,x2,x3,rfl⟩:=LA hl;exact BindsTo.of_eq rfl) (by kernel_rfl) (by decide +kernel) (by decide +kernel)
def nT:FRow:=⟨36,3,"MintError.__init__",aCQ,aAv,(.ref 35),["self","what","at"],[]⟩
theorem vF (w:World):RowOk w nT:=cA "__init__" aAs (.ref 29) (.str "octetmint.basics" 194) [] (by kernel_rfl) (λρ=>trivial) (λs args hK hl=>by obtain⟨x0,x1,x2,rfl⟩:=AH hl;exact binds_K (T:=29) (o:=(.mk (.type "tuple") none (.seq #[.none] 0) #[])) hK rfl (by kernel_rfl) rfl rfl rfl) (by kernel_rfl) (by decide +kernel) (by decide +kernel)
def H0:FRow:=⟨104,1,"mask",aCR,aAw,(.ref 103),["size"],[]⟩
theorem BM (w:World):RowOk w H0:=cA "mask" aAt .none (.str "octetmint.basics" 194) [] (by kernel_rfl) (λρ=>trivial) (λs args hK hl=>by obtain⟨x0,rfl⟩:=AG hl;exact BindsTo.of_eq rfl) (by kernel_rfl) (by decide +kernel) (by decide +kernel)
def IB:FRow:=⟨111,2,"wrap",OX,aAx,(.ref 110),["worth","size"],[]⟩
theorem BN (w:World):RowOk w IB:=cA "wrap" aAu .none (.str "octetmint.basics" 194) [] (by kernel_rfl) (λρ=>trivial) (λs args hK hl=>by obtain⟨x0,x1,rfl⟩:=pK hl;exact BindsTo.of_eq rfl) (by kernel_rfl) (by decide +kernel) (by decide +kernel)
def IC:FRow:=⟨118,2,"fits_either",OX,VS,(.ref 117),["worth","size"],[]⟩
theorem BO (w:World):RowOk w IC:=cA "fits_either" UG .none (.str "octetmint.basics" 194) [] (by kernel_rfl) (λρ=>trivial) (λs args hK hl=>by obtain⟨x0,x1,rfl⟩:=pK hl;exact BindsTo.of_eq rfl) (by kernel_rfl) (by decide +kernel) (by decide +kernel)
def ID:FRow:=⟨125,2,"little",ZW,VT,(.ref 124),["worth","width"],[]⟩
theorem BP (w:World):RowOk w ID:=cA "little" UH .none (.str "octetmint.basics" 194) [] (by kernel_rfl) (λρ=>trivial) (λs args hK hl=>by obtain⟨x0,x1,rfl⟩:=pK hl;exact BindsTo.of_eq rfl) (by kernel_rfl) (by decide +kernel) (by decide +kernel)
def IF:FRow:=⟨165,1,"Fixup.told",vH,VV,(.ref 164),["self"],[]⟩
theorem BR (w:World):RowOk w IF:=cA "told" UJ .none (.str "octetmint.encoder" 358) [] (by kernel_rfl) (λρ=>trivial) (λs args hK hl=>by obtain⟨x0,rfl⟩:=AG hl;exact BindsTo.of_eq rfl) (by kernel_rfl) (by decide +kernel) (by decide +kernel)
def IP:FRow:=⟨340,1,"Affine.told",vH,V1,(.ref 339),["self"],[]⟩
theorem B3 (w:World):RowOk w IP:=cA "told" UP .none (.str "octetmint.expressions" 412) [] (by kernel_rfl) (λρ=>trivial) (λs args hK hl=>by obtain⟨x0,rfl⟩:=AG hl;exact BindsTo.of_eq rfl) (by kernel_rfl) (by decide +kernel) (by decide +kernel)
def JC:FRow:=⟨618,1,"Octets.told",aA5,WJ,(.ref 617),["self"],[]⟩
theorem CP (w:World):RowOk w JC:=cA "told" U6 .none (.str "octetmint.sections" 926) [] (by kernel_rfl) (λρ=>trivial) (λs args hK hl=>by obtain⟨x0,rfl⟩:=AG hl;exact BindsTo.of_eq rfl) (by kernel_rfl) (by decide +kernel) (by decide +kernel)
def JE:FRow:=⟨766,1,"Section.is_empty",vH,WL,(.ref 765),["self"],[]⟩
theorem CR (w:World):RowOk w JE:=cA "is_empty" U8 .none (.str "octetmint.sections" 926) [] (by kernel_rfl) (λρ=>trivial) (λs args hK hl=>by obtain⟨x0,rfl⟩:=AG hl;exact BindsTo.of_eq rfl) (by kernel_rfl) (by decide +kernel) (by decide +kernel)
def r907_4:FRow:=⟨907,4,"Collector.octets",aAC,WT,(.ref 906),["self","octets","fixups","at"],[]⟩
theorem r5 (w:World):RowOk w r907_4:=cA "octets" VG .none (.str "octetmint.sections" 926) [] (by kernel_rfl) (λρ=>trivial) (λs args hK hl=>by obtain⟨x0,x1,x2,x3,rfl⟩:=LA hl;exact BindsTo.of_eq rfl) (by kernel_rfl) (by decide +kernel) (by decide +kernel)
def r942_4:FRow:=⟨942,4,"Collector.numbers",TF,PT,(.ref 941),["self","width","nodes","at"],[]⟩
theorem r6 (w:World):RowOk w r942_4:=cA "numbers" PN .none (.str "octetmint.sections" 926) [] (by kernel_rfl) (λρ=>trivial) (λs args hK hl=>by obtain⟨x0,x1,x2,x3,rfl⟩:=LA hl;exact BindsTo.of_eq rfl) (by kernel_rfl) (by decide +kernel) (by decide +kernel)
def JO:FRow:=⟨998,2,"_law_next",aAF,WW,(.ref 997),["cells","many"],[]⟩
theorem C3 (w:World):RowOk w JO:=cA "_law_next" VJ .none (.str "law_pb0429_01" 1512) [] (by kernel_rfl) (λρ=>trivial) (λs args hK hl=>by obtain⟨x0,x1,rfl⟩:=pK hl;exact BindsTo.of_eq rfl) (by kernel_rfl) (by decide +kernel) (by decide +kernel)
def zP:FRow:=⟨1005,2,"_law_number",aAG,WX,(.ref 1004),["cells","width"],[]⟩
theorem xG (w:World):RowOk w zP:=cA "_law_number" VK .none (.str "law_pb0429_01" 1512) [] (by kernel_rfl) (λρ=>trivial) (λs args hK hl=>by obtain⟨x0,x1,rfl⟩:=pK hl;exact BindsTo.of_eq rfl) (by kernel_rfl) (by decide +kernel) (by decide +kernel)
def zQ:FRow:=⟨1012,2,"_law_part",aAH,WY,(.ref 1011),["cells","width"],[]⟩
theorem xH (w:World):RowOk w zQ:=cA "_law_part" VM .none (.str "law_pb0429_01" 1512) [] (by kernel_rfl) (λρ=>trivial) (λs args hK hl=>by obtain⟨x0,x1,rfl⟩:=pK hl;exact BindsTo.of_eq rfl) (by kernel_rfl) (by decide +kernel) (by decide +kernel)
def zR:FRow:=⟨1017,2,"_law_octets",aAI,WZ,(.ref 1016),["worth","width"],[]⟩
theorem xI (w:World):RowOk w zR:=cA "_law_octets" VN .none (.str "law_pb0429_01" 1512) [] (by kernel_rfl) (λρ=>trivial) (λs args hK hl=>by obtain⟨x0,x1,rfl⟩:=pK hl;exact BindsTo.of_eq rfl) (by kernel_rfl) (by decide +kernel) (by decide +kernel)
def r1024_3:FRow:=⟨1024,3,"_law_due",aAJ,W0,(.ref 1023),["parts","width","is_empty"],[]⟩
theorem qN (w:World):RowOk w r1024_3:=cA "_law_due" VO .none (.str "law_pb0429_01" 1512) [] (by kernel_rfl) (λρ=>trivial) (λs args hK hl=>by obtain⟨x0,x1,x2,rfl⟩:=AH hl;exact BindsTo.of_eq rfl) (by kernel_rfl) (by decide +kernel) (by decide +kernel)
def r1031_3:FRow:=⟨1031,3,"_law_word",aAK,W1,(.ref 1030),["collector","width","nodes"],[]⟩
theorem qO (w:World):RowOk w r1031_3:=cA "_law_word" VP .none (.str "law_pb0429_01" 1512) [] (by kernel_rfl) (λρ=>trivial) (λs args hK hl=>by obtain⟨x0,x1,x2,rfl⟩:=AH hl;exact BindsTo.of_eq rfl) (by kernel_rfl) (by decide +kernel) (by decide +kernel)
def tb:Tb:={
 attr:=[(378,["worth","plus","minus"]),(231,["kind","worth"]),(257,["kind","name"]),(283,["kind","sign","body"]),(309,["kind","sign","left","right"]),(426,["equates"]),(987,["program","section","scope"]),(549,["way","at","name","node"]),(523,["way","at","word","args"]),(856,["sections","names","equates","globals_"]),(795,["name","pieces","labels"]),(621,["way","at","octets","fixups"]),(175,["at","width","name","worth","way"])]
 meth:=[(378,[("is_number",347),("negate",361),("add",368),("told",340)]),(426,[("find",416),("settled",423)]),(987,[("worth",921),("open_name",949),("lay",886),("deed",914),("octets",907),("numbers",942)]),(856,[("section",820),("add_difference",841)]),(795,[("add",773),("is_empty",766)]),(175,[("told",165)]),(621,[("told",618)])]
 smeth:=[(497,[("__init__",494)]),(587,[("__init__",577)])]
 cls:=[(378,333),(426,402),(231,221),(257,247),(283,273),(309,299),(549,539),(523,515),(856,813),(795,752),(621,606),(175,158),(987,879)]
 glob:=(("Affine",.ref 378):Str×Value)::(("affine_of",.ref 387):Str×Value)::(("left_spine",.ref 318):Str×Value)::(("Scope",.ref 426):Str×Value)::(("combined",.ref 458):Str×Value)::(("turned",.ref 465):Str×Value)::(("evaluate",.ref 473):Str×Value)::(("Number",.ref 231):Str×Value)::(("Symbol",.ref 257):Str×Value)::(("Unary",.ref 283):Str×Value)::(("Binary",.ref 309):Str×Value)::(("Equate",.ref 549):Str×Value)::(("Deed",.ref 523):Str×Value)::(("Program",.ref 856):Str×Value)::(("Section",.ref 795):Str×Value)::(("Octets",.ref 621):Str×Value)::(("Fixup",.ref 175):Str×Value)::(("Collector",.ref 987):Str×Value)::(("Statement",.ref 497):Str×Value)::(("Piece",.ref 587):Str×Value)::(("names_in",.ref 480):Str×Value)::(("solve_equates",.ref 563):Str×Value)::(("data_width",.ref 867):Str×Value)::(("mask",.ref 104):Str×Value)::(("wrap",.ref 111):Str×Value)::(("fits_either",.ref 118):Str×Value)::(("little",.ref 125):Str×Value)::(("EncodeError",.ref 71):Str×Value)::(("SymbolError",.ref 83):Str×Value)::(("LayoutError",.ref 95):Str×Value)::(("_law_next",.ref 998):Str×Value)::(("_law_number",.ref 1005):Str×Value)::(("_law_part",.ref 1012):Str×Value)::(("_law_octets",.ref 1017):Str×Value)::(("_law_due",.ref 1024):Str×Value)::(("_law_word",.ref 1031):Str×Value)::[]
 blt:=[("len",.builtin "len"),("sorted",.builtin "sorted"),("abs",.builtin "abs"),("isinstance",.builtin "isinstance"),("list",.type "list"),("enumerate",.type "enumerate"),("bytes",.type "bytes"),("range",.type "range"),("tuple",.type "tuple"),("int",.type "int"),("str",.type "str"),("Exception",.type "Exception")]
 fns:=[IL,IM,IN,IQ,IR,IS,IT,IK,IU,IV,IW,IX,IY,I2,IZ,JN,IG,IH,II,IJ,I4,I6,I5,I3,I7,JG,JH,JD,JK,JA,JB,JF,IE,JI,r949_3,JJ,JL,JM,nT,H0,IB,IC,ID,IF,IP,JC,JE,r907_4,r942_4,JO,zP,zQ,zR,r1024_3,r1031_3]}
theorem al {α:Type} {P:α->Prop} {a:α} {l:List α} (h:P a) (k:∀x∈l,P x):∀x∈a::l,P x:=List.forall_mem_cons.mpr ⟨h,k⟩
theorem K9 (w:World):TbOk w tb:=by
 refine⟨?_,?_,?_,?_,?_,?_,?_⟩
 ·have:tb.glob.all (λq=>nsIn (K w.params) mainGlobals q.1==some (some q.2))=true:=by kernel_rfl
  intro q hq
  simpa using bO.mp this q hq
 ·have:tb.blt.all (λq=>nsIn (K w.params) mainGlobals q.1==some none&&bootBuiltins q.1==some q.2&&!(q.1=="__name__"))=true:=by kernel_rfl
  intro q hq
  have:=bO.mp this q hq
  simp only[bG,beq_iff_eq,Bool.not_eq_true',beq_eq_false_iff_ne] at this
  exact⟨this.1.1,this.1.2,this.2⟩
 ·have:tb.attr.all (λq=>q.2.all (PY (K w.params) q.1))=true:=by kernel_rfl
  intro q hq n hn
  exact bO.mp (bO.mp this q hq) n hn
 ·have:tb.meth.all (λq=>q.2.all (λn=>QA (K w.params) q.1 n.1 n.2))=true:=by kernel_rfl
  intro q hq n hn
  exact bO.mp (bO.mp this q hq) n hn
 ·have:tb.smeth.all (λq=>q.2.all (λn=>QB (K w.params) q.1 n.1 n.2))=true:=by kernel_rfl
  intro q hq n hn
  exact bO.mp (bO.mp this q hq) n hn
 ·have:tb.cls.all (λq=>PZ (K w.params) q.1 q.2)=true:=by kernel_rfl
  intro q hq
  exact bO.mp this q hq
 ·exact al (BY w) <|al (BZ w) <|al (B1 w) <|al (B4 w) <|al (B5 w) <|al (B6 w) <|al (B8 w) <|al (BX w) <|al (B9 w) <|al (CB w) <|al (CC w) <|al (CD w) <|al (CE w) <|al (CH w) <|al (CG w) <|al (C2 w) <|al (BS w) <|al (BU w) <|al (BV w) <|al (BW w) <|al (CJ w) <|al (CL w) <|al (CK w) <|al (CI w) <|al (CM w) <|al (CT w) <|al (CU w) <|al (CQ w) <|al (CY w) <|al (CN w) <|al (CO w) <|al (CS w) <|al (BQ w) <|al (CV w) <|al (r7 w) <|al (CW w) <|al (CZ w) <|al (C0 w) <|al (vF w) <|al (BM w) <|al (BN w) <|al (BO w) <|al (BP w) <|al (BR w) <|al (B3 w) <|al (CP w) <|al (CR w) <|al (r5 w) <|al (r6 w) <|al (C3 w) <|al (xG w) <|al (xH w) <|al (xI w) <|al (qN w) <|al (qO w) λ_ h=>nomatch h
theorem KOO (w:World):eZ w tb:=by
 have:tb.fns.all (λr=>keepIn (K w.params) (.ref r.f))=true:=by kernel_rfl
 intro r hr
 exact bO.mp this r hr
noncomputable def HH:Str:="worth"
noncomputable def Y0:Str:="plus"
noncomputable def RG:Str:="minus"
def vZ (k:Int) (p m:Str):SO:=.dict [(HH,.int k),(Y0,.str p),(RG,.str m)]
abbrev E0:Ih:=ev tb (λ_=>false) 40
end Mine.R
namespace Mine.X
open Mine Mine.R
def DV (KF:Frag) (C:Addr):Prop:=∃bm cd,excIn KF C bm/\bm.contains (.type "Exception")=true/\bm.contains (.type "BaseException")=true/\bm.contains (.type "AttributeError")=false/\bm.contains (.type "NameError")=false/\
 clsIn KF C=some cd/\(∀x,refuseLoop (.ref x) "__setattr__" cd.mro=pure ())/\cd.mro.contains (.type "object")=true/\findIn KF (.ref C) "__setattr__"=some (some (.builtin "object.__setattr__"))/\
 takerIn KF C "what"=some none/\takerIn KF C "at"=some none/\findIn KF (.ref C) "__init__"=some (some (.ref 36))/\keepIn KF (.ref C)=true
theorem XF (w:World):DV (K w.params) 71:=⟨[.ref 46,.type "Exception",.type "BaseException",.type "object"],_,⟨((K w.params).lookup 71).getD default,by kernel_rfl,by kernel_rfl⟩,by decide +kernel,by decide +kernel,by decide +kernel,by decide +kernel,(by kernel_rfl:clsIn (K w.params) 71=some (match clsIn (K w.params) 71 with|some c=>c|none=>default)),
 λx=>show refuseLoop (.ref x) "__setattr__" [.ref 71,.ref 46,.type "Exception",.type "BaseException",.type "object"]=pure () from by first|kernel_rfl|rfl,by kernel_rfl,by kernel_rfl,by kernel_rfl,by kernel_rfl,by kernel_rfl,by kernel_rfl⟩
theorem XG (w:World):DV (K w.params) 83:=⟨[.ref 46,.type "Exception",.type "BaseException",.type "object"],_,⟨((K w.params).lookup 83).getD default,by kernel_rfl,by kernel_rfl⟩,by decide +kernel,by decide +kernel,by decide +kernel,by decide +kernel,(by kernel_rfl:clsIn (K w.params) 83=some (match clsIn (K w.params) 83 with|some c=>c|none=>default)),
 λx=>show refuseLoop (.ref x) "__setattr__" [.ref 83,.ref 46,.type "Exception",.type "BaseException",.type "object"]=pure () from by first|kernel_rfl|rfl,by kernel_rfl,by kernel_rfl,by kernel_rfl,by kernel_rfl,by kernel_rfl,by kernel_rfl⟩
theorem XH (w:World):DV (K w.params) 95:=⟨[.ref 46,.type "Exception",.type "BaseException",.type "object"],_,⟨((K w.params).lookup 95).getD default,by kernel_rfl,by kernel_rfl⟩,by decide +kernel,by decide +kernel,by decide +kernel,by decide +kernel,(by kernel_rfl:clsIn (K w.params) 95=some (match clsIn (K w.params) 95 with|some c=>c|none=>default)),
 λx=>show refuseLoop (.ref x) "__setattr__" [.ref 95,.ref 46,.type "Exception",.type "BaseException",.type "object"]=pure () from by first|kernel_rfl|rfl,by kernel_rfl,by kernel_rfl,by kernel_rfl,by kernel_rfl,by kernel_rfl,by kernel_rfl⟩
section
variable {w:World}
theorem m3 {T:Addr->Prop} {e:Addr} {oe oe':Obj} {h h':Heap} (n:Now w G aY L loc st mm ((e,oe)::xs) aA h) (hL:L.c=none)
  (hk:∀b o,¬T b->h.get? b=some o->h'.get? b=some o) (he:h'.get? e=some oe') (tL:¬T L.a) (t0:∀b o,aY.get? b=some o->¬T b) (tx:∀p∈xs++aA,¬T p.1):Now w G aY L loc st mm ((e,oe')::xs) aA h':=by
 refine q32 n.F.ns λoL es ep ho hr=>?_
 refine⟨⟨⟨oL,es,ep,hk _ _ tL ho,hr⟩,λb o q=>hk b o (t0 b o q) (n.F.keep b o q),n.F.above⟩,λp hp=>?_,FL.none_cx hL,λp hp q hq=>?_,n.R,n.V⟩
 ·rcases bX.mp hp with rfl|hp
  ·exact⟨he,(n.NX (e,oe) (.head _)).2⟩
  ·obtain⟨h1,h2⟩:=n.NX p (.tail _ hp)
   exact⟨hk _ _ (tx p hp) h1,h2⟩
 ·rcases bX.mp hp with rfl|hp
  ·exact n.off (e,oe) (.head _) q hq
  ·exact n.off p (.tail _ hp) q hq
noncomputable abbrev lI (a b c:Value):Loc:=[("at",.lit c),("what",.lit b),("self",.lit a)]
theorem eN0 (k:Nat) (st:List SO) (a b c:Value) (pos:Pos):E0.E (dY nT k) st (lI a b c) (.Name "Exception" pos)=.ret (.lit (.type "Exception"),st):=by kernel_rfl
theorem eN1 (k:Nat) (st:List SO) (a b c:Value) (pos:Pos):E0.E (dY nT k) st (lI a b c) (.Name "self" pos)=.ret (.lit a,st):=by kernel_rfl
theorem eN2 (k:Nat) (st:List SO) (a b c:Value) (pos:Pos):E0.E (dY nT k) st (lI a b c) (.Name "what" pos)=.ret (.lit b,st):=by kernel_rfl
theorem XI (w:World):findCls (K w.params) (.type "Exception") (.type "type") "__init__"=some (.val (.builtin "Exception.__init__")):=by kernel_rfl
abbrev I0 (w:World):IhOk w rw1.prog E0:=yR (K9 w) (KOO w) _ 40
theorem cP {α:Type} {t:Tr α} {a:α} (h:t=.ret a):t.wp (λx=>x=a):=by rw[h];exact rfl
theorem s7 {x:Str} {pos:Pos} {Q:Value->Shared->Prop} (n:Now w G aY L loc st mm xs aA s.heap) (hL:L.c=none)
  (hk:fn.scope.kind=.function) (hl:(fn.fenv L).kindOf x=some .local) (hx:lk loc x=some (.lit v)) (hd:(x==("__debug__":Str))=false) (h:Q v s):wpAny (model prog w) A (eval (.Name x pos) (fn.fenv L)) Q E s:=by
 refine b7 (n.V x _ hx) λu h1 h2=>?_
 rw[FL.lk0 hL] at h1
 obtain rfl:u=v:=h2
 exact wpAny_Name (wpAny_loadName_local hk hl n.F.ns h1 h) hd
theorem A9 (Cx:Fx w fn A outer aZ base aY L p loose aC mg mb) (ac:fn.cs=none)
  {C:Addr} {al:List Value} (hC:DV (K w.params) C) (hdn:fn.dn=k+1) {h h₁:Heap} {g:Array GenState} {d:Drawn} {t:Nat} {os:OsState} {e:Addr} {u1 u2:Value}
  (n:Now w G aY L loc st mm xs aA h) (hm:Heap.MadeExcOf h h₁ e (.ref C) [u1,u2]) {Q:Shared->Prop}
  (hq:∀h' aU aB,Ext (adr aA) (adr aB)->Now w G aY L loc st mm xs aB h'->(∃oe,h'.get? e=some oe/\iF C oe)->aY.get? e=none->(∀q∈xs++aB,q.1≠e)->Q ⟨h',g,d,aU,os⟩):
  wpAny (model rw1.prog w) (A.under (.builtin "type.__call__" ⟨.ref C::al,[]⟩)) (call (.ref 36) [.ref e,u1,u2]) (λr s'=>r=.none/\Q s') E ⟨h₁,g,d,t,os⟩:=by
 have hw:(Code.builtin "type.__call__" ⟨.ref C::al,[]⟩).weight<=2:=by
  show Code.weight _<=2
  exact bA rfl
 have hcu:(Code.builtin "type.__call__" ⟨.ref C::al,[]⟩).cUnits<=10:=bA rfl
 have hL:=Cx.c0 ac
 have hd:=Cx.hd
 have hu:=Cx.hu
 rw[hdn] at hd hu
 refine OW hC λbm cd c1 c2 c3 c4 c5 c6 c7 c8 c9 c10 c11 c12 c13=>?_;clear hC
 refine qM hm.there λtp he1 htn ht1=>?_
 have F1:Fr aY L.a h₁ mm:=n.F.of_stays (λb o q=>hm.keeps _ _ (n.F.keep b o q)) (Heap.UpToSlots.of_keeps hm.keeps)
 have N1:News aY L.a h₁ (xs++aA):=λq hq=>⟨hm.keeps _ _ (n.NX q hq).1,(n.NX q hq).2⟩
 have ne:∀q∈xs++aA,q.1≠e:=λq hq z=>by
  have:=(n.NX q hq).1
  rw[z,hm.new] at this
  exact b5 this
 have n1:Now w G aY L loc st mm ((e,{cls:=.ref C,data:=.fields #[.ref tp,.none,.none,.none,.bool false,.none]})::xs) aA h₁:=by
  refine⟨F1,News.more F1 N1 he1 (λes n q=>by cases q) (kD n.F.keep hm.new),FL.none_cx hL,λp hp q hq=>?_,n.R,n.V⟩
  rcases bX.mp hp with rfl|hp
  ·exact λz=>ne q (ay _ hq) z.symm
  ·exact n.off p hp q hq
 refine wpAny_call (fT (k:=k) rfl (vF w) Cx.B Cx.X Cx.T (A:=A.under (.builtin "type.__call__" ⟨.ref C::al,[]⟩)) (env:=fn.fenv L) (outer:=outer) Cx.hA rfl Cx.hk Cx.hh (by simp only[Around.under];omega) (by simp only[Around.under];omega) (s:=⟨h₁,g,d,t,os⟩) n1 (svs:=[.lit (.ref e),.lit u1,.lit u2]) ⟨rfl,rfl,rfl,trivial⟩ rfl ?_)
 intro g₁ L₁ h₂ tk mm₁ news₁ x1 FG C1 n2 Q' E' hQ PE hE
 have n2:Now w G g₁ L₁ (lI (.ref e) u1 u2) st mm₁ ((e,{cls:=.ref C,data:=.fields #[.ref tp,.none,.none,.none,.bool false,.none]})::xs) news₁ h₂:=by
  have e1:m8 nT [.lit (.ref e),.lit u1,.lit u2] st.length=lI (.ref e) u1 u2:=by kernel_rfl
  have e2:st++j3 nT=st:=by
   rw[show j3 nT=[] from by kernel_rfl,bQ]
  rw[e1,e2] at n2
  exact n2
 have hI:(e,({cls:=.ref C,data:=.fields #[.ref tp,.none,.none,.none,.bool false,.none]}:Obj))∈((e,{cls:=.ref C,data:=.fields #[.ref tp,.none,.none,.none,.bool false,.none]})::xs)++news₁:=.head _
 have h2e:=(n2.NX _ hI).1
 have X2:∀{h':Heap} {aS nw:List (Addr×Obj)},Now w G g₁ L₁ (lI (.ref e) u1 u2) st mm₁ aS nw h'->(K w.params).In h':=λn=>C1.X.keeps n.F.keep
 have e0:g₁.get? e=none:=(n2.NX _ hI).2.2
 have eL:e≠L₁.a:=(n2.NX _ hI).2.1
 have ene:∀{h':Heap} {oe:Obj} {nw:List (Addr×Obj)},Now w G g₁ L₁ (lI (.ref e) u1 u2) st mm₁ ((e,oe)::xs) nw h'->∀q∈xs++nw,q.1≠e:=λn' q hq z=>by
  rcases bN.mp hq with hq|hq
  ·exact ne q (bK _ hq) z
  ·exact n'.off _ (.head _) q hq z.symm
 have eK:∀b o,g₁.get? b=some o->¬b=e:=λb o q z=>by rw[z,e0] at q;exact b5 q
 have hL1:L₁.c=none:=C1.c0 rfl
 refine wpAny_execs_cons (wpAny_Expr_any (MethodCall_ (pl:=_) ((I0 w).Eq _ _ _ _ C1 (cP (eN0 ..)) n2 λu aJ h' aU x3 n3 hv=>?_) (rW (by rfl) (by rfl) (iP rfl _ _))) rfl rfl)
 obtain rfl:u=.type "Exception":=hv
 refine method_type n3.F C1.X rfl (by decide +kernel) (XI w) rfl ?_
 refine callWith_method1 (spliced_more ((I0 w).Eq _ _ _ _ C1 (cP (eN1 ..)) n3 λu aK h' aU x4 n4 hv=>?_)) rfl rfl
 obtain rfl:u=.ref e:=hv
 refine spliced_more ((I0 w).E _ _ _ _ C1 (cP (eN2 ..)) n4 λv aT u aL h5 aU af x5 n5 hv=>spliced_none ?_)
 refine pI af λe1 e2=>?_;clear af;rw[e1] at hv;subst e2
 subst hv
 obtain⟨_,hC5⟩:=iB (X2 n5) c1
 have he5:=(n5.NX _ (.head _)).1
 refine AL c2 hC5 he5 ⟨rfl,tp,rfl⟩ λh6 o6 k6 he6 ho6 hd6 hs6=>?_
 have n6:=m3 (T:=λb=>b=e) n5 hL1 (λb o nb q=>k6 b o nb q) he6 (λz=>eL z.symm) eK (ene n5)
 refine wpAny_execs_cons (plainObj_wpAny_Assign_Attribute (s7 n6 hL1 rfl rfl rfl (by decide) (s7 n6 hL1 rfl rfl rfl (by decide) ?_)) rfl)
 obtain⟨_,hC8⟩:=iB (X2 n6) c1
 have I8:h6.Inst e C (λ_=>none):=by
  obtain⟨q1,z1⟩:=ho6
  obtain⟨tq,q2⟩:=z1
  exact⟨o6,he6,q1,(λc q=>by rw[q2] at q;cases q),.inl ⟨hd6,λ_=>rfl⟩⟩
 refine z7 (X2 n6) c6 (c7 e) c8 c9 c10 hC8 he6 ho6 I8 (λh9 tk9 o9 I9 he9 ho9 hd9 hd9' hk9=>?_) Within.nil (by decide)
 have n9:=m3 (T:=λb=>b=e) n6 hL1 (λb o nb q=>hk9 b o nb (λdx z=>by rw[hd6] at z;exact b5 z) q) he9 (λz=>eL z.symm) eK (ene n6)
 refine wpAny_execs_cons (plainObj_wpAny_Assign_Attribute (s7 n9 hL1 rfl rfl rfl (by decide) (s7 n9 hL1 rfl rfl rfl (by decide) ?_)) rfl)
 obtain⟨_,hC9⟩:=iB (X2 n9) c1
 refine z7 (X2 n9) c6 (c7 e) c8 c9 c11 hC9 he9 ho9 I9 (λh12 tk12 o12 I12 he12 ho12 hd12 hd12' hk12=>?_) (ns:=["what"]) (Within.cons "what" _ Within.nil) (by decide)
 have fr:∀b o,h6.get? b=some o->∀dx,o9.dict=some dx->b≠dx:=λb o q dx hdx z=>by
  rcases hd9' dx hdx with q2|q2
  ·rw[hd6] at q2;exact b5 q2
  ·rw[z,q2] at q;exact b5 q
 have n12:=m3 (T:=λb=>b=e\/o9.dict=some b) n9 hL1 (λb o nb q=>hk12 b o (λz=>nb (.inl z)) (λdx hdx z=>nb (.inr (by rw[z];exact hdx))) q) he12
  (λz=>z.elim (λz=>eL z.symm) λz=>by
   refine q32 n6.F.ns λoL _ _ ho _=>?_
   exact fr _ _ ho _ z rfl)
  (λb o q z=>z.elim (λz=>eK b o q z) λz=>fr _ _ (n6.F.keep b o q) _ z rfl)
  (λq hq z=>z.elim (λz=>ene n9 q hq z) λz=>fr _ _ (n6.NX q (.tail _ hq)).1 _ z rfl)
 refine wpAny_execs_nil ?_
 refine hQ _ _ ⟨L₁.a,_,_,n12.F,n12.NX,λF3 N3=>⟨rfl,?_⟩⟩
 have x15:=((x1.trans x3).trans x4).trans x5
 refine hq _ _ aL x15 ⟨F3,λq hq=>N3 q (.tail _ hq),FL.none_cx hL,λp hp=>n12.off p (.tail _ hp),n12.R,λy v hy=>(n.V y v hy).ext x15⟩ ⟨o12,he12,ho12⟩ (kD n.F.keep hm.new) (ene n12)
end
section
variable {w:World}
theorem m7 (Cx:Fx w fn A outer aZ base aY L p loose aC mg mb) (ac:fn.cs=none)
  {C:Addr} (hC:DV (K w.params) C) (hdn:fn.dn=k+1) {x:Str} {np cpos pos:Pos} {a b:Expr}
  (n:Now w G aY L loc st mm xs aA s.heap) (hx:E0.E fn st loc (.Name x np)=.ret (.lit (.ref C),st)) {v1 v2:SV} {aT:List SO} (ha:oH E0 fn st loc [a,b]=.ret ([v1,v2],aT))
  (hq:∀h' aU aB e,Ext (adr aA) (adr aB)->Now w G aY L loc aT mm xs aB h'->(∃oe,h'.get? e=some oe/\iF C oe)->aY.get? e=none->(∀q∈xs++aB,q.1≠e)->E (.ref e) {s with heap:=h',toks:=aU}):
  wpAny (model rw1.prog w) A (exec (.Raise (some (.Call (.Name x np) [a,b] [] cpos)) none pos) (fn.env L)) Q E s:=by
 replace ha:=cP ha
 have any:=fM (pos:=pos) (env:=fn.env L) ha
 obtain⟨ne,_⟩:=fB ha
 rw[arm_exec_Raise]
 refine wpAny_bind (wpAny_standAt (rG (C:=C) Cx.hh ?_))
 refine wpAny_bind (wpAny_mono (Call_ ((I0 w).Eq _ _ _ _ Cx (cP hx) n λu aI h' aU x1 n1 hv=>?_)) (λv s₃ h₃=>wpAny_bind (wpAny_standAt (wpAny_pure h₃))) λ_ _ x=>x)
 obtain rfl:u=.ref C:=hv
 have hC':=hC
 refine OW hC' λbm cd c1 c2 c3 c4 c5 c6 c7 c8 c9 c10 c11 c12 c13=>?_;clear hC'
 refine callWith_K Cx.X c13 (R.sA (I0 w) Cx ha n1 λvs st2 us aJ h2 aX af x2 n2 hvs=>⟨Cx.X.keeps n2.F.keep,?_⟩) (cR ne) ?_
 ·first|exact b5 af|(refine pI af λe1 e2=>?_;clear af;(rw[e1] at hvs;subst e2))
  match us,hvs with
  |[u1,u2],_=>
  obtain⟨_,hCo⟩:=iB (Cx.X.keeps n2.F.keep) c1
  have hfI:∃oI,h2.get? 36=some oI/\oI.cls=.type "function":=by
   have q1:(K w.params).lookup 36=some (match(K w.params).lookup 36 with|some o=>o|none=>default):=by kernel_rfl
   have q2:(match(K w.params).lookup 36 with|some o=>o|none=>default:Obj).cls=.type "function":=by kernel_rfl
   exact⟨_,(Cx.X.keeps n2.F.keep) _ _ q1,q2⟩
  obtain⟨oI,hfI,LX⟩:=hfI
  refine EX c2 c4 c5 hCo (looks_findIn (Cx.X.keeps n2.F.keep) c12) hfI LX (λh3 e hm=>?_) (by show(2:Nat)<=_;exact bl (by decide) gX)
  refine A9 Cx ac hC hdn n2 hm (λh4 tk4 aL x4 n4 he4 e0 ne4=>?_)
  obtain⟨oe,he4,hoe⟩:=he4
  obtain⟨_,hC4⟩:=iB (Cx.X.keeps n4.F.keep) c1
  exact⟨e,oe,bm,_,_,_,rfl,hC4,c3,he4,hoe,hq h4 tk4 aL e ((x1.trans x2).trans x4) n4 ⟨oe,he4,hoe⟩ e0 ne4⟩
 ·rw[cR ne,bn] at any
  simp only[Bool.false_or] at any
  rw[<-any]
  exact iZ _ _
end
section
variable {w:World} {prog:Program}
set_option backward.match.sparseCases true in
theorem E4 {r:FRow} (ok:RowOk w r) (hnc:∀x∈r.scope.names,x.2≠.cell) {env:Env}
  (B:Below aZ base [] aY) (X:(K w.params).In aY) (T:Top p loose aC mg mb aY) (hA:A.frames=some [env]) (hf:env.frame=some L.a) (hke:env.scope.kind=.function) (hh:A.handled=none)
  {k:Nat} (hd:A.depth+4*(k+1)<recursionLimit+2) (hu:A.units+20*(k+1)+90<cLine) {svs:List SV} {R:Result->Shared->Prop} (n:Now w G aY L loc st mm xs aA s.heap) (hv:RVs (adr aA) svs us) (hlen:svs.length=r.ar)
  (body:∀(g:Heap) (La:Addr) (h₁:Heap) (tk:Nat) (aV:Str->Option Value),Fr aY L.a g mm->L.a∈[env].filterMap (·.frame)->
   Fx w (dY r k) (A.deeper ((dY r k).fenv ⟨La,[],none⟩)) [env] A base g ⟨La,[],none⟩ p loose aC mg mb->
   Now w G g ⟨La,[],none⟩ (r.names.zip (svs++r.dfl)).reverse st aV xs aA h₁->
   ∀(Q':Flow->Shared->Prop) (E':Value->Shared->Prop),(∀fl s',(∃(g':Heap) (L₂:Addr) (m':Str->Option Value) (nw:List (Addr×Obj)),KtsTurn ([env].filterMap (·.frame)) g g'/\Fr g' L₂ s'.heap m'/\News g' L₂ s'.heap nw/\(Fr aY L.a s'.heap mm->News aY L.a s'.heap nw->R (.ok (.ret (match fl with| .ret v=>v|_=>.none))) s'))->Q' fl s')->
   PassesOwn (model prog w) (A.deeper ((dY r k).fenv ⟨La,[],none⟩)) ((dY r k).env ⟨La,[],none⟩) E'->(∀e,PassesOwnAt (model prog w) ((A.deeper ((dY r k).fenv ⟨La,[],none⟩)).mark (some (.ref e))) (A.deeper ((dY r k).fenv ⟨La,[],none⟩)) ((dY r k).fenv ⟨La,[],none⟩) E')->
   wpAny (model prog w) (A.deeper ((dY r k).fenv ⟨La,[],none⟩)) (execs r.body ((dY r k).fenv ⟨La,[],none⟩)) Q' E' {s with heap:=h₁,toks:=tk}):
  codeAny (model prog w) A (.call (.ref r.f) ⟨us,[]⟩) R s:=by
 refine ZQ ok.fn λname params dV kV doc pm ct oc an od osl dv ho hdf hb=>?_
 have hlen':us.length=r.ar:=by rw[hv.len,hlen]
 have hloc:∀y∈r.names.zip (us++dv),r.scope.names.lookup y.1=some .local:=λy hy=>ok.names _ (List.of_mem_zip hy).1
 have X':=X.keeps n.F.keep
 refine zO (groundX (R:=R) B n.F n.NX hA hf hke) λFG BG st0 _=>?_
 refine codeAny_call_def (fd:=fnX name r.qual params r.body r.scope [] dV kV doc pm an r.cdv ct) (body:=r.body) (binds:=r.names.zip (us++dv)) (by omega) (X' _ _ ho) rfl (T.nolimit.keeps n.F.keep) (codeRec_of X' ok.code) rfl (hb s us X' hlen') hnc hloc (λh₁ hns hk₁=>?_) ok.co ok.gen ok.kind
 have N1:News (hideAll s.heap ((xs++aA).map (·.1))) s.heap.objs.size h₁ (xs++aA):=λp hp=>⟨hk₁ _ _ (n.NX p hp).1,Nat.ne_of_lt (Heap.lt_size (n.NX p hp).1),hideAll_none _ (List.mem_map_of_mem hp)⟩
 have F1:Fr (hideAll s.heap ((xs++aA).map (·.1))) s.heap.objs.size h₁ (λx=>(r.names.zip (us++dv)).reverse.lookup x):=⟨hns,λb o e=>hk₁ b o (of_hideAll _ e),Nat.le_of_eq (hideAll_size _ _)⟩
 have rk:=DY (DZ (ns:=r.names) (hv.app (hdf (adr aA))))
 have C1:Fx w (dY r k) (A.deeper ((dY r k).fenv ⟨s.heap.objs.size,[],none⟩)) [env] A base (hideAll s.heap ((xs++aA).map (·.1))) ⟨s.heap.objs.size,[],none⟩ p loose aC mg mb:=by
  refine⟨BG,X.keeps st0,T.keeps st0,?_,rfl,ok.kind,hh,?_,?_⟩
  ·show Option.map _ A.frames=_;rw[hA];rfl
  ·simp only[Around.deeper];omega
  ·simp only[Around.deeper];omega
 have n1:Now w G (hideAll s.heap ((xs++aA).map (·.1))) ⟨s.heap.objs.size,[],none⟩ (r.names.zip (svs++r.dfl)).reverse st (λx=>(r.names.zip (us++dv)).reverse.lookup x) xs aA h₁:=by
  refine⟨F1,N1,(λ_ h=>by exact b5 h),n.off,n.R,λx v hx=>?_⟩
  refine b7 (yE rk hx) λu hu hr=>?_
  exact jQ ⟨u,hu,hr⟩
 have hLm:L.a∈[env].filterMap (·.frame):=List.mem_filterMap.mpr ⟨env,.head _,hf⟩
 refine wpAny_mono (body _ s.heap.objs.size h₁ _ _ FG hLm C1 n1 _ (λe s'=>wpAny (model prog w) (A.deeper ((dY r k).fenv ⟨s.heap.objs.size,[],none⟩)) (leaving ((dY r k).fenv ⟨s.heap.objs.size,[],none⟩) e) (λ_ s''=>R (.error e) s'') (λe' s''=>R (.error e') s'') s') (λ_ _ h=>h) PassesOwn.leaving λ_=>PassesOwnAt.leaving) (λfl s' hl=>?_) λ_ _ y=>y
 refine q44 hl λg' L' m' aB T' F' N' kk=>?_;clear hl
 refine q34 FG.ns λoL es ep hLg hLd hLk hLf=>?_
 have nL₀:aY.get? L.a=none:=oY n.F
 obtain⟨sl,hs⟩:=T'.up hLg
 refine kk ⟨⟨_,es,ep,F'.keep _ _ hs,hLd,hLk,hLf⟩,λb o e=>F'.keep b o (T'.other b o (st0 b o e) (λq=>?_)),n.F.above⟩ λp hp=>⟨(N' p hp).1,λq=>?_,?_⟩
 ·rcases gZ hf q with z|z
  ·rw[z,nL₀] at e;exact b5 e
  ·simp at z
 ·have:=(N' p hp).2.2;rw[q,hs] at this;exact b5 this.symm
 ·cases q:aY.get? p.1 with
  |none=>rfl
  |some o=>
   obtain⟨sl',hs'⟩:=T'.up (st0 _ _ q)
   have:=(N' p hp).2.2
   rw[hs'] at this
   exact b5 this.symm
end
end Mine.X
namespace Mine.R
open Mine
noncomputable def dP:List Nat->Nat->Nat->Option Nat
 |[],_,_=>none
 |a::r,j,k=>match Nat.beq a j with
  |true=>some k
  |false=>dP r j (k+1)
def cD (ρ:List Addr) (π:List Nat):SV->SV
 | .obj j=>match dP π j 0 with
  |some k=>.obj k
  |none=>.lit (.ref (ρ.getD j 0))
 |v=>v
def eV (ρ:List Addr) (π:List Nat) (es:List (Str×SV)):List (Str×SV):=es.map λp=>(p.1,cD ρ π p.2)
def cO (ρ:List Addr) (π:List Nat):SO->SO
 | .inst C d=>.inst C ((dP π d 0).getD 0)
 | .ud es=>.ud (eV ρ π es)
 | .dict es=>.dict (eV ρ π es)
 | .list vs=>.list (vs.map (cD ρ π))
 | .listB n vs=>.listB n (vs.map (cD ρ π))
 | .tup vs=>.tup (vs.map (cD ρ π))
 | .raw o=>.raw o
 | .fz=>.fz
 | .pud es=>.pud (eV ρ π es)
 | .cell v=>.cell (v.map (cD ρ π))
def xN (π:List Nat):SO->Bool
 | .inst _ d=>(dP π d 0).isSome
 |_=>true
noncomputable def m5:SO->Bool
 | .fz=>false
 | .pud _=>false
 |_=>true
def gO (ρ:List Addr) (st:List SO) (π:List Nat):List SO:=π.map λi=>cO ρ π (st.getD i .fz)
noncomputable def mG:List Nat->Bool
 |[]=>true
 |a::r=>(dP r a 0).isNone&&mG r
def gN (st:List SO) (π:List Nat):Bool:=mG π&&π.all λi=>match st[i]? with
 |some so=>xN π so
 |none=>false
noncomputable abbrev kH (aA:List (Addr×Obj)) (i:Nat):Addr×Obj:=aA.getD i (0,default)
def eD (aA:List (Addr×Obj)) (π:List Nat):List (Addr×Obj):=π.map (kH aA)
theorem eQ:∀{π:List Nat} {j b k:Nat},dP π j b=some k->∃i,k=b+i/\π[i]? =some j
 |[],_,_,_,h=>by exact b5 h
 |a::r,j,b,k,h=>by
  unfold dP at h
  split at h
  ·rename_i e
   replace h:=oS h;subst h
   exact⟨0,rfl,by rw[bg e];rfl⟩
  ·refine b7 (eQ h) λi h1 h2=>?_
   exact⟨i+1,by omega,h2⟩
theorem hM:∀{π:List Nat} {j b:Nat},dP π j b=none->j∉π
 |[],_,_,_=>by simp
 |a::r,j,b,h=>by
  unfold dP at h
  split at h
  ·first|exact b5 h|exact b5 h.symm
  ·rename_i e
   intro hm
   rcases bX.mp hm with rfl|hm
   ·rw[Nat.beq_refl] at e;exact d9 e.symm
   ·exact hM h hm
theorem nL:∀{l:List Nat},mG l=true->l.Nodup
 |[],_=>List.nodup_nil
 |a::r,h=>by
  unfold mG at h
  simp only[bG,Option.isNone_iff_eq_none] at h
  exact List.nodup_cons.mpr ⟨hM h.1,nL h.2⟩
section
variable {w:World}
theorem qT {π:List Nat} {i j:Nat} {a:Addr} (h2:π[i]? =some j) (h:(adr aA)[j]? =some a):(adr (eD aA π))[i]? =some a:=by
 delta adr eD
 rw[bp,bp,h2]
 unfold adr at h
 rw[bp] at h
 cases hn:aA[j]? with
 |none=>rw[hn] at h;first|exact b5 h|cases h
 |some p=>
  rw[hn] at h
  replace h:=oS h;subst h
  simp[kH,bC,hn]
theorem mN {π:List Nat}:∀{v:SV} {u:Value},RV (adr aA) v u->RV (adr (eD aA π)) (cD (adr aA) π v) u
 | .none,_,h=>h
 | .bool _,_,h=>h
 | .int _,_,h=>h
 | .str _,_,h=>h
 | .bytes _ _,_,h=>h
 | .lit _,_,h=>h
 | .cell _,_,h=>h
 | .obj j,u,⟨a,h,e⟩=>by
  show RV _ (match dP π j 0 with|some k=>.obj k|none=>.lit (.ref ((adr aA).getD j 0))) u
  split
  ·rename_i k hk
   refine b7 (eQ hk) λi h1 h2=>?_
   rw[Nat.zero_add] at h1
   subst h1
   exact⟨a,qT h2 h,e⟩
  ·show u=.ref _
   rw[e,bC,h]
   rfl
theorem qU {π:List Nat} {v:List SV} {u:List Value} (h:RVs (adr aA) v u):RVs (adr (eD aA π)) (v.map (cD (adr aA) π)) u:=All2.mapl (λ_ _ a=>mN a) h
theorem M4 {P:Params} {π:List Nat} {v:List (Str×SV)} {u:List DictEntry} (h:RE P (adr aA) v u):RE P (adr (eD aA π)) (eV (adr aA) π v) u:=RE.map (f:=cD (adr aA) π) (λh=>mN h) h
theorem zX {π:List Nat} {v:List (Str×SV)} {u:List (Str×Value)} (h:RK (adr aA) v u):RK (adr (eD aA π)) (eV (adr aA) π v) u:=All2.mapl (λ_ _ a=>⟨a.1,mN a.2⟩) h
theorem M5 {G':Addr->Obj} {π:List Nat} {a:Addr} {so:SO} {o:Obj} (hc:xN π so=true) (hG:m5 so=true\/G=G') (h:RO w G (adr aA) a so o):RO w G' (adr (eD aA π)) a (cO (adr aA) π so) o:=by
 cases so with
 |inst C d=>
  refine b7 h λx hx e=>?_;clear h
  obtain⟨k,hk⟩:=Option.isSome_iff_exists.mp hc
  refine b7 (eQ hk) λi h1 h2=>?_
  rw[Nat.zero_add] at h1
  rw[<-h1] at h2
  refine⟨x,?_,e⟩
  rw[hk]
  exact qT h2 hx
 |ud es=>obtain⟨kvs,h1,h2⟩:=h;exact⟨kvs,zX h1,h2⟩
 |dict es=>obtain⟨en,h1,h2⟩:=h;exact⟨en,M4 h1,by rw[h2];unfold eV;rw[bF]⟩
 |list vs=>obtain⟨ws,n,h1,h2⟩:=h;exact⟨ws,n,qU h1,h2⟩
 |listB k vs=>obtain⟨⟨ws,n,h1,h2⟩,l⟩:=h;exact⟨⟨ws,n,qU h1,h2⟩,by rw[bF];exact l⟩
 |tup vs=>obtain⟨ws,n,h1,h2⟩:=h;exact⟨ws,n,qU h1,h2⟩
 |raw o'=>exact h
 |fz=>
  rcases hG with e|e
  ·first|exact b5 e|exact d9 e
  ·subst e;exact h
 |pud es=>
  rcases hG with e|e
  ·first|exact b5 e|exact d9 e
  ·subst e
   obtain⟨g,z1⟩:=h
   refine b7 z1 λkvs h1 h2=>?_;clear z1
   exact⟨g,kvs,zX h1,h2⟩
 |cell v=>
  cases v with
  |none=>exact h
  |some v=>obtain⟨u,h1,h2⟩:=h;exact⟨u,h1,mN h2⟩
theorem hW (R:Rep w G st aA) {π:List Nat} (h:gN st π=true):(∀G',((∀i∈π,∀so,st[i]? =some so->m5 so=true)\/G=G')->Rep w G' (gO (adr aA) st π) (eD aA π))/\∀q∈eD aA π,∃i∈π,aA[i]? =some q:=by
 unfold gN at h
 simp only[bG] at h
 have nd:=nL h.1
 have hin:∀i∈π,∃so p,st[i]? =some so/\xN π so=true/\aA[i]? =some p/\RO w G (adr aA) p.1 so p.2:=λi hi=>by
  have:=bO.mp h.2 i hi
  refine X4 this ?_;clear this;intro so hs this
  refine b7 (R.at_ i so hs) λp hp hr=>?_
  exact⟨so,p,hs,this,hp,hr⟩
 have hget:∀{i:Nat} {p:Addr×Obj},aA[i]? =some p->kH aA i=p:=fun{i p} hp=>by simp[kH,bC,hp]
 refine⟨λG' hG=>⟨by simp[eD,gO],?_,λk so hk=>?_⟩,λq hq=>?_⟩
 ·show((π.map (kH aA)).map (·.1)).Nodup
  rw[List.map_map]
  refine List.pairwise_map.mpr (List.Pairwise.imp_of_mem (fun{i j} hi hj hne e=>hne ?_) nd)
  refine kS (hin i hi) λ_ p _ _ hp _=>?_
  refine kS (hin j hj) λ_ q _ _ hq _=>?_
  have e':p.1=q.1:=by
   have:=e
   simp only[Function.comp] at this
   rw[hget hp,hget hq] at this
   exact this
  exact kC R.nd (a:=p.1) (by simp[hp]) (by simp[hq,e'])
 ·unfold gO at hk
  rw[bp] at hk
  cases hi:π[k]? with
  |none=>rw[hi] at hk;first|exact b5 hk|cases hk
  |some i=>
   rw[hi] at hk
   replace hk:=oS hk;subst hk
   refine kS (hin i (bD hi)) λso p hs hok hp hr=>?_
   refine⟨p,?_,?_⟩
   ·unfold eD
    rw[bp,hi]
    exact congrArg some (hget hp)
   ·have e:st.getD i .fz=so:=by simp[bC,hs]
    show RO w G' (adr (eD aA π)) p.1 (cO (adr aA) π (st.getD i .fz)) p.2
    rw[e]
    exact M5 hok (hG.imp (λf=>f i (bD hi) so hs) id) hr
 ·refine b7 (bY.mp hq) λi hi z1=>?_;subst z1
  refine kS (hin i hi) λ_ p _ _ hp _=>?_
  exact⟨i,hi,by rw[hp,hget hp]⟩
def O1 (st:List SO) (π:List Nat):Bool:=π.all λi=>match st[i]? with
 |some so=>m5 so
 |none=>false
theorem LR (R:Rep w G st aA) {π:List Nat} (h:gN st π=true) (hp:O1 st π=true):Grp w (gO (adr aA) st π) (eD aA π):=λG'=>
 (hW R h).1 G' (.inl λi hi so hs=>by
  have:=bO.mp hp i hi
  rw[hs] at this
  exact this)
noncomputable def fJ (ρ:List Addr) (π:List Nat):Loc->Loc
 |[]=>[]
 |(x,v)::r=>match v with
  | .cell j=>match dP π j 0 with
   |some k=>(x,.cell k)::fJ ρ π r
   |none=>fJ ρ π r
  |v=>(x,cD ρ π v)::fJ ρ π r
noncomputable def s9:Loc->Bool
 |[]=>true
 |(x,_)::r=>(match lk r x with|none=>true|some _=>false)&&s9 r
theorem sC {ρ:List Addr} {π:List Nat} {x:Str}:∀{loc:Loc},lk loc x=none->lk (fJ ρ π loc) x=none
 |[],_=>rfl
 |(y,v)::r,h=>by
  unfold lk at h
  split at h
  ·first|exact b5 h|exact b5 h.symm
  ·rename_i g
   have ih:=sC (ρ:=ρ) (π:=π) h
   unfold fJ
   split
   ·split
    ·unfold lk;simp only;rw[g];exact ih
    ·exact ih
   ·unfold lk;simp only;rw[g];exact ih
theorem kK {π:List Nat} {x:Str} {z:SV}:∀{loc:Loc},s9 loc=true->lk (fJ ρ π loc) x=some z->∃v,lk loc x=some v/\((∃j k,v=.cell j/\dP π j 0=some k/\z=.cell k)\/((∀j,v≠.cell j)/\z=cD ρ π v))
 |[],_,h=>by exact b5 h
 |(y,v)::r,h1,h=>by
  unfold s9 at h1
  simp only[bG] at h1
  have hx:∀{w:SV},seq y x=true->lk ((y,w)::r) x=some w:=fun{w} g=>by unfold lk;simp only;rw[g]
  have hy:∀{w:SV},seq y x=false->lk ((y,w)::r) x=lk r x:=fun{w} g=>by
   show(match seq y x with|true=>some w|false=>lk r x)=lk r x
   rw[g]
  unfold fJ at h
  split at h
  ·rename_i j
   split at h
   ·rename_i k hk
    unfold lk at h
    simp only at h
    split at h
    ·rename_i g
     replace h:=oS h;subst h
     exact⟨_,hx g,.inl ⟨j,k,rfl,hk,rfl⟩⟩
    ·rename_i g
     refine b7 (kK h1.2 h) λv' a b=>?_
     exact⟨v',by rw[hy g];exact a,b⟩
   ·cases g:seq y x with
    |true=>
     have:=dI g
     subst this
     have hn:lk r y=none:=by
      have:=h1.1
      refine X5 this ?_;clear this;intro e this
      exact e
     rw[sC hn] at h
     exact b5 h
    |false=>
     refine b7 (kK h1.2 h) λv' a b=>?_
     exact⟨v',by rw[hy g];exact a,b⟩
  ·rename_i hne
   unfold lk at h
   simp only at h
   split at h
   ·rename_i g
    replace h:=oS h;subst h
    exact⟨v,hx g,.inr ⟨λj e=>hne j e,rfl⟩⟩
   ·rename_i g
    refine b7 (kK h1.2 h) λv' a b=>?_
    exact⟨v',by rw[hy g];exact a,b⟩
def Has (xs g:List (Addr×Obj)):Prop:=∀q∈g,q∈xs
def minus (xs g:List (Addr×Obj)):List (Addr×Obj):=xs.filter λp=>!(adr g).contains p.1
theorem mem_minus {g:List (Addr×Obj)} {p:Addr×Obj}:p∈minus xs g<->p∈xs/\p.1∉adr g:=by
 unfold minus
 rw[List.mem_filter]
 simp[adr]
theorem gD {g:List (Addr×Obj)} (nd:(adr xs).Nodup):(adr (minus xs g)).Nodup:=by
 unfold adr minus at*
 exact nd.sublist ((List.filter_sublist).map _)
theorem tJ {h:Heap} (n:Now w G aY L loc st mm xs aA h) {π:List Nat} (hs:gN st π=true) (hl:s9 loc=true):
  Now w G aY L (fJ (adr aA) π loc) (gO (adr aA) st π) mm (xs++minus aA (eD aA π)) (eD aA π) h:=by
 obtain⟨hR,hm⟩:=hW n.R hs
 have hmem:∀q∈eD aA π,q∈aA:=λq hq=>by
  refine b7 (hm q hq) λi _ e=>?_
  exact bD e
 refine⟨n.F,λp hp=>n.NX p ?_,λc hc=>bK _ (n.CX c hc),λp hp q hq=>?_,hR G (.inr rfl),λx z hz=>?_⟩
 ·rcases bN.mp hp with e|e
  ·rcases bN.mp e with e|e
   ·exact bK _ e
   ·exact ay _ (mem_minus.mp e).1
  ·exact ay _ (hmem p e)
 ·rcases bN.mp hp with e|e
  ·exact n.off p e q (hmem q hq)
  ·exact λe2=>(mem_minus.mp e).2 (e2▸bY.mpr ⟨q,hq,rfl⟩)
 ·refine b7 (kK hl hz) λv hv hc=>?_
  have hV:=n.V x v hv
  rcases hc with⟨j,k,rfl,hk,rfl⟩|⟨hne,rfl⟩
  ·refine b7 hV λa h1 h2=>?_;clear hV
   refine b7 (eQ hk) λi e1 e2=>?_
   rw[Nat.zero_add] at e1
   rw[<-e1] at e2
   exact⟨a,h1,qT e2 h2⟩
  ·have hV':∃u,L.lk mm x=some u/\RV (adr aA) v u:=by
    cases v<;>first|exact hV|exact absurd rfl (hne _)
   refine b7 hV' λu h1 h2=>?_;clear hV'
   exact jQ ⟨u,h1,mN h2⟩
theorem F9 (R:Rep w G st aA) {π π₂:List Nat} (h:gN st π=true) (h₂:gN st π₂=true) (d:(π₂.all λi=>(dP π i 0).isNone)=true):Has (minus aA (eD aA π)) (eD aA π₂):=by
 intro q hq
 refine b7 ((hW R h₂).2 q hq) λi hi hn=>?_
 refine mem_minus.mpr ⟨bD hn,λhm=>?_⟩
 refine b7 (bY.mp hm) λq' hq' e=>?_
 refine b7 ((hW R h).2 q' hq') λj hj hn'=>?_
 have hij:i=j:=kC R.nd (a:=q.1) (by simp[hn]) (by simp[hn',e])
 rw[<-hij] at hj;rw[<-hij] at hn'
 have:=bO.mp d i hi
 exact hM (by simpa using this) hj
theorem AX {sg:List SO} {g:List (Addr×Obj)} {h:Heap} (n:Now w G aY L loc st mm xs aA h) (hL:∀c,L.c=some c->(c.C,c.oC)∈minus xs g) (hg:Has xs g) (Rg:Grp w sg g):
  Now w G aY L loc (st++sg.map (lG st.length)) mm (minus xs g) (aA++g) h:=by
 have ndg:=(Rg λ_=>default).nd
 refine⟨n.F,λp hp=>n.NX p ?_,hL,λp hp q hq=>?_,⟨?_,?_,λi so hi=>?_⟩,λx v hx=>?_⟩
 ·rcases bN.mp hp with e|e
  ·exact bK _ (mem_minus.mp e).1
  ·rcases bN.mp e with e|e
   ·exact ay _ e
   ·exact bK _ (hg _ e)
 ·obtain⟨h1,h2⟩:=mem_minus.mp hp
  rcases bN.mp hq with e|e
  ·exact n.off p h1 q e
  ·exact λe2=>h2 (e2▸bY.mpr ⟨q,e,rfl⟩)
 ·simp[n.R.len,Rg.len]
 ·rw[bH,bZ]
  refine⟨n.R.nd,ndg,λa ha b hb=>?_⟩
  refine b7 (bY.mp ha) λp hp z1=>?_;subst z1
  refine b7 (bY.mp hb) λq hq z1=>?_;subst z1
  exact λe=>n.off q (hg _ hq) p hp e.symm
 ·rcases be i st.length with q|q
  ·rw[bU q] at hi
   refine b7 (n.R.at_ i so hi) λp hp hr=>?_
   exact⟨p,by rw[bU (by rw[n.R.len];exact q)];exact hp,hr.ext ⟨adr g,by simp⟩⟩
  ·rw[bV q,bp] at hi
   cases hs:sg[i-st.length]? with
   |none=>rw[hs] at hi;first|exact b5 hi|cases hi
   |some so'=>
    rw[hs] at hi
    replace hi:=oS hi;subst hi
    refine b7 ((Rg G).at_ _ _ hs) λp hp hr=>?_
    refine⟨p,by rw[bV (by rw[n.R.len];exact q),n.R.len];exact hp,?_⟩
    have:=TS (ρ:=adr aA) (τ:=[]) hr
    rw[bQ,show(adr aA).length=st.length by simp[adr,n.R.len]] at this
    rw[bH]
    exact this
 ·exact(n.V x v hx).ext ⟨adr g,by simp[adr]⟩
end
abbrev Gr:=List SO×List Addr
def Hd (w:World) (xs:dJ) (gs:List Gr):Prop:=(∀p∈gs,∃g,adr g=p.2/\Grp w p.1 g/\Has xs g)/\(gs.flatMap (·.2)).Nodup
section
variable {w:World}
theorem Hd.nil:Hd w xs []:=⟨nofun,List.nodup_nil⟩
theorem Hd.sub {aS:dJ} {gs:List Gr} (H:Hd w xs gs) (s:∀p∈xs,p∈aS):Hd w aS gs:=⟨λp hp=>by
 refine qM (H.1 p hp) λg h1 h2 h3=>?_
 exact⟨g,h1,h2,λq hq=>s q (h3 q hq)⟩,H.2⟩
theorem Hd.adr {gs:List Gr} (H:Hd w xs gs) {p:Gr} (hp:p∈gs) {a:Addr} (ha:a∈p.2):a∈adr xs:=by
 refine qM (H.1 p hp) λg h1 h2 h3=>?_
 rw[<-h1] at ha
 refine b7 (bY.mp ha) λq hq e=>?_
 exact bY.mpr ⟨q,h3 q hq,e⟩
theorem wJ {gs₁ gs₂:List Gr} {p:Gr} (nd:((gs₁++p::gs₂).flatMap (·.2)).Nodup) {q:Gr} (hq:q∈gs₁++gs₂) {a:Addr} (ha:a∈q.2):a∉p.2:=by
 rw[bi,ba,bZ] at nd
 refine jN nd λ_ nd2 nd3=>?_;clear nd
 rw[bZ] at nd2
 rcases bN.mp hq with h|h
 ·exact λhp=>nd3 a (List.mem_flatMap.mpr ⟨q,h,ha⟩) a (bK _ hp) rfl
 ·exact λhp=>nd2.2.2 a hp a (List.mem_flatMap.mpr ⟨q,h,ha⟩) rfl
theorem Hd.focus {gs₁ gs₂:List Gr} {p:Gr} (H:Hd w xs (gs₁++p::gs₂)) {h:Heap} (n:Now w G aY L loc st mm xs aA h) (hL:∀c,L.c=some c->c.C∉p.2) (nd:(Mine.adr xs).Nodup):
  ∃g,Mine.adr g=p.2/\Grp w p.1 g/\Now w G aY L loc (st++p.1.map (lG st.length)) mm (minus xs g) (aA++g) h/\(Mine.adr (minus xs g)).Nodup/\Hd w (minus xs g) (gs₁++gs₂):=by
 refine qM (H.1 p (ay _ (.head _))) λg h1 h2 h3=>?_
 refine⟨g,h1,h2,AX n (λc hc=>mem_minus.mpr ⟨n.CX c hc,by rw[h1];exact hL c hc⟩) h3 h2,gD nd,λq hq=>?_,?_⟩
 ·obtain⟨g',e1,e2,e3⟩:=H.1 q (by
   rcases bN.mp hq with h|h
   ·exact bK _ h
   ·exact ay _ (.tail _ h))
  refine⟨g',e1,e2,λz hz=>mem_minus.mpr ⟨e3 z hz,?_⟩⟩
  rw[h1]
  exact wJ H.2 hq (e1▸bY.mpr ⟨z,hz,rfl⟩)
 ·have:=H.2
  rw[bi,ba,bZ] at this
  refine jN this λnd1 nd2 nd3=>?_;clear this
  rw[bZ] at nd2
  rw[bi,bZ]
  exact⟨nd1,nd2.2.1,λa ha b hb=>nd3 a ha b (ay _ hb)⟩
def oO (ρ:List Addr) (st:List SO) (π:List Nat):Gr:=(gO ρ st π,π.map λi=>ρ.getD i 0)
def dC (st:List SO) (k:Nat) (pis:List (List Nat)):Bool:=gN st (List.range k)&&gN st pis.flatten&&(pis.all λπ=>gN st π&&O1 st π)&&pis.flatten.all (Nat.ble k)
theorem lP {π:List Nat} (h:∀i∈π,i<aA.length):adr (eD aA π)=π.map λi=>(adr aA).getD i 0:=by
 delta adr eD
 rw[List.map_map]
 refine List.map_congr_left λi hi=>?_
 have:=h i hi
 simp[kH,bC,bR this]
theorem iV {π:List Nat} (h:gN st π=true):∀i∈π,i<st.length:=λi hi=>by
 unfold gN at h
 simp only[bG] at h
 have:=bO.mp h.2 i hi
 rcases be i st.length with q|q
 ·exact q
 ·rw[bP q] at this;exact d9 this
theorem nQ {i:Nat} (h:k<=i):dP (List.range k) i 0=none:=by
 cases e:dP (List.range k) i 0 with
 |none=>rfl
 |some j=>
  refine b7 (eQ e) λm h1 h2=>?_
  have:=bD h2
  rw[List.mem_range] at this
  omega
theorem d7 {h:Heap} (n:Now w G aY L loc st mm X aA h) (ae:(adr X).Nodup) {pis:List (List Nat)} (ok:dC st k pis=true) (hl:s9 loc=true) {gs:List Gr} (H:Hd w X gs):
  ∃aS,Now w G aY L (fJ (adr aA) (List.range k) loc) (gO (adr aA) st (List.range k)) mm aS (eD aA (List.range k)) h/\(adr aS).Nodup/\(∀p∈X,p∈aS)/\Hd w aS (gs++pis.map (oO (adr aA) st))/\adr (eD aA (List.range k))=((List.range k).map λi=>(adr aA).getD i 0)/\(∀p∈aS++eD aA (List.range k),p∈X++aA):=by
 unfold dC at ok
 simp only[bG] at ok
 obtain⟨z1,ok4⟩:=ok
 obtain⟨z2,ok3⟩:=z1
 obtain⟨ok1,ok2⟩:=z2
 have len:=n.R.len
 have lt1:∀{π:List Nat},gN st π=true->∀i∈π,i<aA.length:=λhs i hi=>by rw[len];exact iV hs i hi
 have n':=tJ n ok1 hl
 have ge:∀i∈pis.flatten,k<=i:=λi hi=>bA (bO.mp ok4 i hi)
 refine⟨_,n',?_,λp hp=>bK _ hp,⟨λp hp=>?_,?_⟩,lP (lt1 ok1),λp hp=>?_⟩
 ·rw[adr,bH,bZ]
  refine⟨ae,gD n.R.nd,λa ha b hb=>?_⟩
  refine b7 (bY.mp ha) λp hp z1=>?_;subst z1
  refine b7 (bY.mp hb) λq hq z1=>?_;subst z1
  exact n.off p hp q (mem_minus.mp hq).1
 ·rcases bN.mp hp with hp|hp
  ·refine qM (H.1 p hp) λg h1 h2 h3=>?_
   exact⟨g,h1,h2,λq hq=>bK _ (h3 q hq)⟩
  ·refine b7 (bY.mp hp) λπ hπ z1=>?_;subst z1
   have o3:=bO.mp ok3 π hπ
   simp only[bG] at o3
   refine⟨eD aA π,lP (lt1 o3.1),LR n.R o3.1 o3.2,λq hq=>ay _ (F9 n.R ok1 o3.1 ?_ q hq)⟩
   rw[bO]
   intro i hi
   rw[nQ (ge i (List.mem_flatten.mpr ⟨π,hπ,hi⟩))]
   rfl
 ·have e:((pis.map (oO (adr aA) st)).flatMap (·.2))=pis.flatten.map λi=>(adr aA).getD i 0:=by
   rw[List.flatMap_map,List.map_flatten,List.flatMap_def]
   rfl
  rw[bi,bZ,e]
  refine⟨H.2,?_,λa ha b hb=>?_⟩
  ·rw[<-lP (lt1 ok2)]
   exact((hW n.R ok2).1 G (.inr rfl)).nd
  ·refine b7 (List.mem_flatMap.mp ha) λp hp ha=>?_
   refine b7 (bY.mp (H.adr hp ha)) λq hq z1=>?_;subst z1
   rw[<-lP (lt1 ok2)] at hb
   refine b7 (bY.mp hb) λz hz z1=>?_;subst z1
   refine b7 ((hW n.R ok2).2 z hz) λi hi hz'=>?_
   exact n.off q hq z (bD hz')
 ·rcases bN.mp hp with hp|hp
  ·rcases bN.mp hp with hp|hp
   ·exact bK _ hp
   ·exact ay _ (mem_minus.mp hp).1
  ·refine b7 ((hW n.R ok1).2 p hp) λi hi hn=>?_
   exact ay _ (bD hn)
theorem Now.reloc {loc':Loc} {h:Heap} (n:Now w G aY L loc st mm xs aA h) (s:∀x v,lk loc' x=some v->lk loc x=some v):Now w G aY L loc' st mm xs aA h:=
 ⟨n.F,n.NX,n.CX,n.off,n.R,λx v hx=>n.V x v (s x v hx)⟩
end
end Mine.R
namespace Mine.R
open Mine Mine.X
section
variable {w:World}
theorem GD {l:dJ} {I₀:Addr} {nm:String} (lt:∀p∈l,p.1<I₀):∀p∈l,∀q∈[(I₀,nm)],p.1≠q.1:=λp hp q hq=>by
 simp at hq
 subst hq
 exact Nat.ne_of_lt (lt p hp)
theorem xP {j:Nat} {so:SO} (h:st[j]? =some so):(st.set j SO.fz)[j]? =some .fz:=by
 rw[bc]
 have:j<st.length:=rV h
 simp[this]
theorem gC:∀(us:List Value),RVs ρ (us.map .lit) us
 |[]=>trivial
 |_::t=>⟨rfl,gC t⟩
theorem o7:∀{ws:List Value},RVs ρ (us.map .lit) ws->ws=us:=by
 induction us with
 |nil=>intro ws h;exact All2.nl h
 |cons u t ih=>intro ws h;exact All2.cs h λw r e a b=>by rw[e,a,ih b]
theorem cM {G':Addr->Obj} {aB:dJ} (x:Ext (adr aA) (adr aB)) (R:Rep w G st aA) (R':Rep w G' st aB):adr aB=adr aA:=by
 obtain⟨t,e⟩:=x
 have h1:=R.len
 have h2:=R'.len
 have h3:(adr aB).length=(adr aA++t).length:=by rw[e]
 simp[adr] at h3
 have:t=[]:=bv (by omega)
 rw[e,this,bQ]
theorem uJ {t it:Expr} {b:List Stmt} {pos:Pos}
  (C:Fx w fn A outer aZ base aY L p loose aC mg mb) (ac:fn.cs=none) (PE:PassesOwn (model rw1.prog w) A (fn.env L) E)
  (n:Now w G aY L loc st mm xs aA s.heap) (ndx:(adr xs).Nodup) (hp:d5 it=true) {j:Nat} {us:List Value} (he:E0.E fn st loc it=.ret (.obj j,st)) (hj:st[j]? =some (.list (us.map .lit)))
  (J:List Value->Loc->List SO->dJ->Prop) (JR:Value->List SO->dJ->Prop) (J0:J us loc (st.set j .fz) xs) (hz:∀r loc st xs,J r loc st xs->st[j]? =some .fz) (hzr:∀v st xs,JR v st xs->st[j]? =some .fz)
  (step:∀v r loc st xs aB mm its h tk G',J (v::r) loc st xs->adr aB=adr aA->Now w G' aY L loc st mm (its++xs) aB h->(adr (its++xs)).Nodup->∀Qb:Flow->Shared->Prop,
   (∀fl loc' aT aV aS aB h' aU,(fl=.next\/fl=.cont)->J r loc' aT aS->adr aB=adr aA->Now w G' aY L loc' aT aV (its++aS) aB h'->(adr (its++aS)).Nodup->Qb fl {s with heap:=h',toks:=aU})->
   (∀u loc' aT aV aS aB h' aU,JR u aT aS->adr aB=adr aA->Now w G' aY L loc' aT aV (its++aS) aB h'->(adr (its++aS)).Nodup->Qb (.ret u) {s with heap:=h',toks:=aU})->
   wpAny (model rw1.prog w) A (assign t (fn.fenv L) v) (λ_ s₃=>wpAny (model rw1.prog w) A (execs b (fn.fenv L)) Qb E s₃) E {s with heap:=h,toks:=tk})
  (fin:∀loc st mm xs aB h tk,J [] loc st xs->adr aB=adr aA->Now w G aY L loc (st.set j (.list (us.map .lit))) mm xs aB h->(adr xs).Nodup->Q .next {s with heap:=h,toks:=tk})
  (ret:∀u loc st mm xs aB h tk,JR u st xs->adr aB=adr aA->Now w G aY L loc (st.set j (.list (us.map .lit))) mm xs aB h->(adr xs).Nodup->Q (.ret u) {s with heap:=h,toks:=tk}):
  wpAny (model rw1.prog w) A (exec (.For t it b [] pos) (fn.env L)) Q E s:=by
 have e0:=Fn.env0 ac L
 have PE':PassesOwn (model rw1.prog w) A (fn.fenv L) E:=by rw[<-e0];exact PE
 rw[e0]
 refine For_turns (env:=fn.fenv L) n.F ?_ (dB hp _) PE'
 rw[show eval it (fn.fenv L)=eval it (fn.env L) from by rw[e0]]
 have key:∀aI h1 aW u,adr aI=adr aA->Now w G aY L loc st mm xs aI h1->RV (adr aI) (.obj j) u->wpAny (model rw1.prog w) A (pyIter u) (λit s₂=>TurnsAt rw1.prog w A aY (fn.fenv L) t b Q E it s₂) E {s with heap:=h1,toks:=aW}:=by
  intro aI h1 aW u ea n1 hv
  refine b7 hv λax ha z1=>?_;clear hv;subst z1
  refine fP (cU n1.N n1.R hj ha) λws q hw hq il=>?_
  obtain rfl:=o7 hw
  refine iter_listTurns C.hh n1.F n1.NX (ay _ (bD hq)) rfl rfl λI₀ lt=>?_
  have thaw:∀{loc:Loc} {st:List SO} {mm:Str->Option Value} {xs aB:dJ} {h:Heap},st[j]? =some .fz->adr aB=adr aA->Now w (ghost G ax (listOf ws.toArray q)) aY L loc st mm xs aB h->Now w G aY L loc (st.set j (.list (ws.map .lit))) mm xs aB h:=by
   intro loc st mm xs aB h fz e n2
   have ha':(adr aB)[j]? =some ax:=by rw[e,<-ea];exact ha
   obtain⟨R2,_⟩:=jP n2.R (so:=.list (ws.map .lit)) ha' fz ⟨ws,q,gC ws,rfl⟩
   exact⟨n2.F,n2.NX,n2.CX,n2.off,R2,n2.V⟩
  refine mW C ac (s:={s with heap:=h1,toks:=aW}) (G:=ghost G ax (listOf ws.toArray q)) (ρ₀:=adr aA) (ws:=[(I₀,_)]) (keep:=[(ax,listOf ws.toArray q)])
   (λits loc st xs _=>∃r:List Value,its=r.map .val/\J r loc st xs) (λu st xs _=>JR u st xs) (by simp) ?_ ?_ ?_ ?_ _ ⟨ws,rfl,J0⟩ ea (dL n1.R hq) n1.off ndx n1.V (GD lt)
  ·rintro its loc st xs aJ ⟨r,rfl,hJ⟩ e R2
   exact s5 (ρ₀:=adr aI) ha st aJ (by unfold gJ;rw[hz _ _ _ _ hJ]) (by rw[e,<-ea];exact .rfl') R2
  ·rintro a its loc st xs aJ aQ tt h2 aX v ⟨r,e,hJ⟩ e2 n2 nd2 hi Qb k1 k2
   cases r with
   |nil=>exact xA e.symm
   |cons v0 r=>
    cases e
    have hv0:v=v0:=hi
    rw[<-hv0] at hJ;rw[<-hv0] at hi
    exact step v r loc st xs aJ aQ tt h2 aX _ hJ e2 n2 nd2 Qb (λfl loc' aT aV aS aB h' aU hfl hJ' e' n' nd'=>k1 fl loc' aT aV aS aB h' aU hfl ⟨r,rfl,hJ'⟩ e' n' nd') k2
  ·rintro loc st mm xs aJ h2 aX ⟨r,e,hJ⟩ e2 n2 nd2
   cases r with
   |cons=>exact xA e
   |nil=>exact fin loc _ mm xs aJ h2 aX hJ e2 (thaw (hz _ _ _ _ hJ) e2 n2) nd2
  ·intro u loc st mm xs aJ h2 aX hJ e2 n2 nd2
   exact ret u loc _ mm xs aJ h2 aX hJ e2 (thaw (hzr _ _ _ hJ) e2 n2) nd2
 refine(I0 w).Eq _ _ _ _ C (cP he) n λu aI h1 aW x n1 hv=>?_
 exact key aI h1 aW u (cM x n.R n1.R) n1 hv
theorem AQ {sc:PySem.Scope} {x:Str} {cl:Loc} {elt it:Expr} {gens:List Comprehension} {cp:Pos}
  (C:Fx w fn A outer aZ base aY L p loose aC mg mb) (ac:fn.cs=none) {Q:Value->Shared->Prop}
  (n:Now w G aY L loc st mm xs aA s.heap) (ndx:(adr xs).Nodup) (hg:gL gens=some (x,it,none)) (hb:(fF sc x&&d5 it)=true) (hf:dE fn loc sc.names=some cl) {j:Nat} (he:E0.E fn st loc it=.ret (.obj j,st)) (hj:st[j]? =some (.list (us.map .lit))) (hsm:us.length<=1000)
  (J:List Value->List Value->List SO->dJ->Prop) (J0:J us [] (st.set j .fz) xs) (hz:∀r ys st xs,J r ys st xs->st[j]? =some .fz)
  (step:∀v r ys st xs aB h tk G',J (v::r) ys st xs->adr aB=adr aA->∀(c:CF) (z3:dJ),Now w G' aY ⟨L.a,L.cl,some c⟩ ((x,.lit v)::cl) st mm (z3++xs) aB h->(c.C,c.oC)∈z3->(adr (z3++xs)).Nodup->∀(Q':Value->Shared->Prop) (E':Value->Shared->Prop),
   (∀y aT aS aB loc' h' aU,J r (ys++[y]) aT aS->adr aB=adr aA->Now w G' aY ⟨L.a,L.cl,some c⟩ loc' aT mm (z3++aS) aB h'->(adr (z3++aS)).Nodup->Q' y {s with heap:=h',toks:=aU})->
   Fx w (fn.blk sc) A outer aZ base aY ⟨L.a,L.cl,some c⟩ p loose aC mg mb->
   wpAny (model rw1.prog w) A (eval elt ((fn.blk sc).env ⟨L.a,L.cl,some c⟩)) Q' E' {s with heap:=h,toks:=tk})
  (fin:∀ys st xs aB h tk D,J [] ys st xs->adr aB=adr aA++[D]->Now w G aY L loc (st.set j (.list (us.map .lit))++[.list (ys.map .lit)]) mm xs aB h->(adr xs).Nodup->Q (.ref D) {s with heap:=h,toks:=tk}):
  wpAny (model rw1.prog w) A (eval (.ListComp elt gens sc cp) (fn.env L)) Q E s:=by
 have hL:=C.c0 ac
 simp only[bG] at hb
 refine zO (eO hb.1) λhk hcell ah hlx=>?_
 have hcl:closureFor sc (fn.env L)=pure (j8 (fn.env L) sc.names []):=eM λq hq e=>by rw[Fn.env0 ac];exact(dN hL n.V hf).1 q hq e
 obtain⟨px,rfl⟩:=fV hg
 refine LCg.ListComp_U n.F hcl hcell hk ah hlx ((I0 w).Eq _ _ _ _ C (cP he) n λu aI h1 aW x1 n1 hv=>?_) (dB hb.2 _)
 have ea:=cM x1 n.R n1.R
 refine b7 hv λax ha z1=>?_;clear hv;subst z1
 refine fP (cU n1.N n1.R hj ha) λws q hw hq il=>?_
 obtain rfl:=o7 hw
 have hmem:(ax,listOf ws.toArray q)∈xs++aI:=ay _ (bD hq)
 refine LCg.CompSrc.ledger C.hh n1.F n1.NX hmem (by rw[bT];exact bl hsm gX) λg=>?_
 have fz0:=xP hj
 have key:=lU (prog:=rw1.prog) C ac (x:=x) (sc:=sc) (loc:=loc) (G:=ghost G ax (listOf ws.toArray q)) (ρ₀:=adr aA) (s:={s with heap:=g,toks:=aW}) (mm:=mm) (total:=ws.length) (elt:=elt) (Src:=LCg.SrcAt aY ax ws.toArray) (Pi:=λi v=>ws.toArray[i]? =some v) hf n.V (Fin:=LCg.FinE aY L.a mm {s with heap:=g,toks:=aW} Q)
  (λi ys st xs _=>J (ws.drop i) ys st xs) ?_ ?_ ?_ ws.length 0 [] (st.set j .fz) xs aI (by simp) (by simpa using J0) ea (dL n1.R hq) n1.off ndx
 ·simpa using key
 ·intro i ys st2 au aJ hJ e2 R2
  refine b7 (R2.at_ j _ (hz _ _ _ _ hJ)) λq2 hq2 hr=>?_
  have e1:(adr aJ)[j]? =some q2.1:=by simp[adr,hq2]
  have e3:q2.1=ax:=by rw[e2,<-ea,ha] at e1;exact(bS e1).symm
  have e4:q2.2=listOf ws.toArray q:=by have:q2.2=ghost G ax (listOf ws.toArray q) q2.1:=hr;rw[this,e3];unfold ghost;rw[if_pos rfl]
  exact .inr ⟨listOf ws.toArray q,by
                    have:q2=(ax,listOf ws.toArray q):=by rw[<-e3,<-e4]
                    rw[<-this];exact ay _ (bD hq2),rfl,q,rfl⟩
 ·intro i ys st2 au aJ hi hJ e2 v hv c z3 h2 aX n2 hc nd2 Q' E' kk Cb
  have hd:ws.drop i=v::ws.drop (i+1):=by
   have hv':ws[i]? =some v:=by simpa using hv
   obtain⟨h1,h2⟩:=List.getElem?_eq_some_iff.mp hv'
   rw[List.drop_eq_getElem_cons h1,h2]
  simp only[hd] at hJ
  exact step v (ws.drop (i+1)) ys st2 au aJ h2 aX _ hJ e2 c z3 n2 hc nd2 Q' E' (λy aT aS aB loc' h' aU a b c d=>kk y aT aS aB loc' h' aU a b c d) Cb
 ·intro ys st2 au aJ hJ e2 R2 off2 nd2 D h3 tk3 F3 N3 o1
  have hJ':J [] ys st2 au:=by simpa using hJ
  have ha2:(adr aJ)[j]? =some ax:=by rw[e2,<-ea];exact ha
  obtain⟨n3,r3⟩:=kA (loc:=loc) (loc':=loc) (mm:=mm) (news0:=aA) (aq:=ys.map .lit) R2 ha2 (hz _ _ _ _ hJ') (gC ws) off2 (FL.none_cx hL) (gC ys) F3 N3 o1 (λy v hy=>by
   have:=n.V y v hy
   rw[<-e2] at this
   exact this.ext ext_push)
  exact fin ys st2 au _ h3 tk3 D hJ' (by simp[adr,<-e2]) n3 nd2
end
end Mine.R
namespace Mine.R
open Mine
noncomputable def zG:Str:="kind"
noncomputable def RH:Str:="name"
noncomputable def OG:Str:="sign"
noncomputable def YX:Str:="body"
noncomputable def YZ:Str:="left"
noncomputable def RJ:Str:="right"
def Y8 (k:Int):SO:=.dict [(zG,.str "number"),(HH,.int k)]
def aCc (n:Str):SO:=.dict [(zG,.str "symbol"),(RH,.str n)]
def unS (s:Str) (b:Nat):SO:=.dict [(zG,.str "unary"),(OG,.str s),(YX,.obj b)]
def aAy (s:Str) (l r:Nat):SO:=.dict [(zG,.str "binary"),(OG,.str s),(YZ,.obj l),(RJ,.obj r)]
end Mine.R
namespace Mine.L
open Mine Mine.R Mine.X
inductive PS where
 |num (w:Int)|neg (w:Int)|far (m:Int)|dist|spot (m:Int)|way|bad (m:Int)
noncomputable def cV:Str:="far"
noncomputable def cC:Str:="near"
noncomputable def PS.worth:PS->Int
 | .num w=>w
 | .neg w=>w
 | .far m=>m
 | .dist=>0
 | .spot m=>7-m
 | .way=>14
 | .bad m=>m
def PS.plus:PS->Str
 | .num _=>""
 | .neg _=>""
 | .far _=>cV
 | .dist=>cV
 | .spot _=>cV
 | .way=>cC
 | .bad _=>""
def PS.minus:PS->Str
 | .dist=>cC
 | .way=>cV
 | .bad _=>cC
 |_=>""
def EC (s:Str) (l r:List SO):List SO:=[.inst 309 1,aAy s 2 4]++l.map (lG 2)++r.map (lG 4)
def MN (k:Int):List SO:=[.inst 231 1,Y8 k]
def xY (n:Str):List SO:=[.inst 257 1,aCc n]
def PS.node:PS->List SO
 | .num w=>MN w
 | .neg w=>[.inst 283 1,unS "-" 2,.inst 231 3,Y8 (0-w)]
 | .far m=>EC "+" (xY cV) (MN m)
 | .dist=>EC "-" (xY cV) (xY cC)
 | .spot m=>EC "-" (xY "spot") (MN m)
 | .way=>EC "+" (xY "way") (xY "count")
 | .bad m=>EC "-" (MN m) (xY cC)
def PS.grp (p:PS):List SO:=.tup [.obj 1,.int p.worth,.str p.plus,.str p.minus]::p.node.map (lG 1)
noncomputable def eq3:List (Str×SV):=[("count",.obj 14),("spot",.obj 16),("way",.obj 18)]
noncomputable def kI:Str:="0-far-near"
noncomputable def kJ:Str:="0-near-far"
inductive Sh where
 |n|f (a:List Addr)|r (b:List Addr)|fr (a b:List Addr)|rf (b a:List Addr)
noncomputable def cS (l:List Addr):Value:=.ref (l.getD 0 0)
def Sh.lst:Sh->List (Str×Value)
 | .n=>[]
 | .f a=>[(kI,cS a)]
 | .r b=>[(kJ,cS b)]
 | .fr a b=>[(kI,cS a),(kJ,cS b)]
 | .rf b a=>[(kJ,cS b),(kI,cS a)]
structure LS where
 wd:Option Int
 cells:List Int
 sec:Value
 ga:Value
 secs:List (Str×Value)
 nms:List Str
 eqs:Sh
 told:List Str
noncomputable def fC (l:List (Str×Value)):List (Str×SV):=l.map λp=>(p.1,.lit p.2)
def LS.sT (s:LS):List SO:=[.cell (s.wd.map .int),.cell (some (.obj 4)),.cell (some (.obj 3)),.listB 60 (s.cells.map .int),.inst 987 5,.dict [("program",.obj 6),("section",.lit s.sec),("scope",.obj 11)],.inst 856 7,
 .dict [("sections",.obj 8),("names",.obj 9),("equates",.obj 10),("globals_",.lit s.ga)],.ud (fC s.secs),.list (s.nms.map .str),.ud (eq3++fC s.eqs.lst),.inst 426 12,.dict [("equates",.obj 13)],.ud eq3,.inst 378 15,vZ 5 "" "",.inst 378 17,vZ 7 cV "",.inst 378 19,vZ 9 cC cV,.listB 100 (s.told.map .str),.list [.str "count",.str "spot",.str "way"]]
noncomputable def sy1 (p:Pos):Bool:=Nat.beq p.line 30||(Nat.beq p.line 528||Nat.beq p.line 610)
abbrev E1:Ih:=ev tb sy1 40
abbrev I1 (w:World):IhOk w rw1.prog E1:=yR (K9 w) (KOO w) _ 40
def dQ (s:LS) (aD:List Value) (fx:List Value):List SO:=s.sT++[.list (aD.map .lit),.fz,.listB 5 (fx.map .lit)]
noncomputable def dG (wd:Int) (m:Nat) (b:Array UInt8) (more:Loc):Loc:=("self",.obj 4)::("width",.int wd)::("nodes",.obj 23)::("at",.none)::("octets",.bytes m b)::("fixups",.obj 24)::more
def iC:Stmt:=match r942_4.body with
 |_::x::_=>x
 |_=>.Pass default
def iS:List Stmt:=match iC with
 | .For _ _ b _ _=>b
 |_=>[]
def zI:Stmt:=match iS with|x::_=>x|_=>.Pass default
def mZ:Stmt:=match iS with|_::x::_=>x|_=>.Pass default
noncomputable def fQ (s:Stmt):Expr:=match s with| .If t _ _ _=>t|_=>.Constant .none 0 default
noncomputable def wN (s:Stmt):List Stmt:=match s with| .If _ b _ _=>b|_=>[]
noncomputable def ifO (s:Stmt):List Stmt:=match s with| .If _ _ o _=>o|_=>[]
noncomputable def oQ (s:Stmt):Pos:=match s with| .If _ _ _ p=>p|_=>default
noncomputable def b8 (l:List Stmt):Stmt:=match l with|x::_=>x|_=>.Pass default
noncomputable def l5 (l:List Stmt):Stmt:=match l with|_::x::_=>x|_=>.Pass default
noncomputable def hd2 (l:List Stmt):Stmt:=match l with|_::_::x::_=>x|_=>.Pass default
abbrev kL:Stmt:=b8 (wN mZ)
abbrev jA:Stmt:=b8 (wN kL)
abbrev kP:Stmt:=l5 (wN mZ)
abbrev mF:Stmt:=b8 (ifO mZ)
abbrev jK:Stmt:=l5 (ifO mZ)
theorem uX:iS=[zI,.If (fQ mZ) [.If (fQ kL) [jA] [] (oQ kL),kP] [mF,jK] (oQ mZ)]:=by kernel_rfl
abbrev eJ (k:Nat):Fn:=dY r942_4 k
structure Lf where
 f:Flo
 sT:List SO
 gs:List (List SO)
 lC:List (Option SV)
def lf (ρ:List Addr) (k:Nat) (pis:List (List Nat)) (ns:List Str) (y:Flo×List SO×Loc):Option Lf:=match dC y.2.1 k pis&&s9 y.2.2 with
 |true=>some ⟨y.1,y.2.1.take k,pis.map (gO ρ y.2.1),ns.map (lk y.2.2)⟩
 |false=>none
noncomputable def cX {α β:Type} (f:α->β):Tr α->Tr β
 | .ret a=>.ret (f a)
 | .no=>.no
 | .br b t e=>.br b (cX f t) (cX f e)
section
variable {w:World}
theorem gG {R α β:Type} {f:R->α->β} {P:R->β->Prop} (r0:R):∀{t:Tr α},(∀r,(cX (f r) t).wp (P r))->t.wp λy=>∀r,P r (f r y)
 | .ret _,h=>h
 | .no,h=>h r0
 | .br _ _ _,h=>⟨λe=>gG r0 λr=>(h r).1 e,λe=>gG r0 λr=>(h r).2 e⟩
inductive Runs {α:Type} (t:Tr α) (a:α):Prop where
 |ret (h:t=.ret a)
 |br (c:Bool) (hc:c=true) (h:t=.br c (.ret a) .no)
theorem Runs.wp {α:Type} {t:Tr α} {a:α}:Runs t a->t.wp (λz=>z=a)
 | .ret h=>by rw[h];exact rfl
 | .br c hc h=>by
  rw[hc] at h
  rw[h]
  exact⟨λ_=>rfl,λe=>by exact d9 e.symm⟩
theorem Hd.perm {gs gs':List Gr} (h:gs.Perm gs') (H:Hd w xs gs):Hd w xs gs':=⟨λp hp=>H.1 p (h.mem_iff.mpr hp),(h.flatMap_right _).nodup_iff.mp H.2⟩
theorem Hd.left {a b:List Gr} (H:Hd w xs (a++b)):Hd w xs a:=⟨λp hp=>H.1 p (bK _ hp),by
 have:=H.2
 rw[bi,bZ] at this
 exact this.1⟩
theorem Hd.right {a b:List Gr} (H:Hd w xs (a++b)):Hd w xs b:=⟨λp hp=>H.1 p (ay _ hp),by
 have:=H.2
 rw[bi,bZ] at this
 exact this.2.1⟩
theorem tW (ρ:List Addr) (st:List SO):∀pis:List (List Nat),pis.map (oO ρ st)=(pis.map (gO ρ st)).zip (pis.map λπ=>π.map λi=>ρ.getD i 0)
 |[]=>rfl
 |π::r=>by rw[bL,bL,bL,List.zip_cons_cons,tW ρ st r];rfl
theorem eR {b g:dJ} (x:Ext (adr (b++g)) ρ):(List.range b.length).map (λi=>ρ.getD i 0)=adr b/\(List.range' b.length g.length).map (λi=>ρ.getD i 0)=adr g:=by
 obtain⟨t,rfl⟩:=x
 constructor
 ·apply List.ext_getElem
  ·simp[adr]
  ·intro i h1 h2
   have hi:i<b.length:=by simpa using h1
   simp[adr,bC,bU,hi]
 ·apply List.ext_getElem
  ·simp[adr]
  ·intro i h1 h2
   have hi:i<g.length:=by simpa using h1
   have e:(List.map (λx=>x.fst) g++t)[i]? =(List.map (λx=>x.fst) g)[i]? :=bU (by simpa using hi)
   simp[adr,bC,bV,e,hi]
def DE (ρ:List Addr) (k:Nat):SV->SV
 | .cell i=>.cell i
 |v=>cD ρ (List.range k) v
theorem mK {i:Nat} (h:i<k):dP (List.range k) i 0=some i:=by
 cases e:dP (List.range k) i 0 with
 |none=>exact absurd (List.mem_range.mpr h) (hM e)
 |some j=>
  refine b7 (eQ e) λm h1 h2=>?_
  rw[Nat.zero_add] at h1
  rw[<-h1] at h2
  have hj:j<(List.range k).length:=by
   rcases be j (List.range k).length with q|q
   ·exact q
   ·rw[bP q] at h2;exact b5 h2
  rw[bR hj,List.getElem_range] at h2
  rw[bS h2]
noncomputable def eW (k:Nat):SV->Bool
 | .cell i=>Nat.blt i k
 |_=>true
theorem zY {ρ:List Addr} {x:Str} {v:SV} (hv:eW k v=true):∀{loc:Loc},lk loc x=some v->lk (fJ ρ (List.range k) loc) x=some (DE ρ k v)
 |[],h=>by cases h
 |(y,u)::r,h=>by
  have hy:∀{z:SV} {l:Loc},seq y x=true->lk ((y,z)::l) x=some z:=fun{z l} g=>by unfold lk;simp only;rw[g]
  have hn:∀{z:SV} {l:Loc},seq y x=false->lk ((y,z)::l) x=lk l x:=fun{z l} g=>by
   show(match seq y x with|true=>some z|false=>lk l x)=lk l x
   rw[g]
  cases g:seq y x with
  |true=>
   rw[hy g] at h
   cases h
   cases v with
   |cell i=>
    have:dP (List.range k) i 0=some i:=mK (bA hv)
    unfold fJ
    simp only[this]
    exact hy g
   |_=>exact hy g
  |false=>
   rw[hn g] at h
   have ih:=zY (ρ:=ρ) hv h
   unfold fJ
   split
   ·split
    ·rw[hn g];exact ih
    ·exact ih
   ·rw[hn g];exact ih
noncomputable def fD (ρ:List Addr) (k:Nat):List Str->List SV->Loc
 |x::r,v::t=>(x,DE ρ k v)::fD ρ k r t
 |_,_=>[]
theorem o8 {x:Str} {v:SV}:∀{ns:List Str} {vs:List SV},ns.map (lk loc)=vs.map some->vs.all (eW k)=true->lk (fD ρ k ns vs) x=some v->lk (fJ ρ (List.range k) loc) x=some v
 |[],_,_,_,h=>by exact b5 h
 |y::r,[],h,_,_=>by exact xA h.symm
 |y::r,u::t,h,hc,hx=>by
  rw[bL,bL] at h
  rw[bh,bG] at hc
  obtain⟨h1,h2⟩:=List.cons.inj h
  have hx':(match seq y x with|true=>some (DE ρ k u)|false=>lk (fD ρ k r t) x)=some v:=hx
  cases g:seq y x with
  |true=>
   rw[g] at hx'
   replace hx':=oS hx';subst hx'
   have:=dI g
   subst this
   exact zY hc.1 h1
  |false=>
   rw[g] at hx'
   exact o8 h2 hc.2 hx'
theorem selSt_take (h:k<=st.length):gO ρ st (List.range k)=(st.take k).map (cO ρ (List.range k)):=by
 unfold gO
 apply List.ext_getElem
 ·simp[h]
 ·intro i h1 h2
  have hi:i<k:=by simpa using h1
  have hi2:i<st.length:=Nat.lt_of_lt_of_le hi h
  simp[bC,bR hi2]
theorem nA {ih:Ih} (I:IhOk w rw1.prog ih)
  (C:Fx w fn A outer aZ base aY L p loose aC mg mb) (ac:fn.cs=none) {s:Shared} {b:List Stmt} (PE:PassesOwn (model rw1.prog w) A (fn.env L) E)
  (n:Now w G aY L loc st mm X aA s.heap) (ae:(adr X).Nodup) {gs:List Gr} (H:Hd w X gs) {pis:List (List Nat)} {ns:List Str} {st1:List SO} {gs1:List Addr->List (List SO)} (hc:vs.all (eW k)=true)
  (run:∀ρ,Runs (cX (lf ρ k pis ns) (ih.S fn st loc b)) (some ⟨.next,st1,gs1 ρ,vs.map some⟩))
  (kk:∀ρ aS aV aB h' aU,Ext (adr aA) ρ->adr aB=(List.range k).map (λi=>ρ.getD i 0)->Now w G aY L (fD ρ k ns vs) (st1.map (cO ρ (List.range k))) aV aS aB h'->(adr aS).Nodup->
   Hd w aS (gs++(gs1 ρ).zip (pis.map λπ=>π.map λi=>ρ.getD i 0))->Q .next {s with heap:=h',toks:=aU}):
  wpAny (model rw1.prog w) A (execs b (fn.env L)) Q E s:=by
 refine I.S fn st loc b C ac (gG (f:=λρ=>lf ρ k pis ns) (P:=λρ z=>z=some (⟨.next,st1,gs1 ρ,vs.map some⟩:Lf)) [] λρ=>(run ρ).wp) PE n λf aT loc' fl aV aB h' aU hlf x n' hf=>?_
 have h1:=hlf (adr aB)
 unfold lf at h1
 refine jM h1 ?_;clear h1;intro ok h1
 simp only[bG] at ok
 injection h1 with h1
 injection h1 with e1 e2 e3 e4
 simp only at e1
 subst e1
 cases hf
 have hk':k<=aT.length:=by
  rcases Nat.eq_zero_or_pos k with z|z
  ·rw[z];exact Nat.zero_le _
  ·have h2:=ok.1
   unfold dC at h2
   simp only[bG] at h2
   have:=iV h2.1.1.1 (k-1) (List.mem_range.mpr (by omega))
   omega
 refine HZ (d7 n' ae ok.1 ok.2 H) λaS n2 nd2 sub H2 ea _=>?_
 rw[selSt_take hk'] at n2
 simp only at e2 e3 e4
 rw[e2] at n2
 refine kk (adr aB) aS aV _ h' aU x ea (n2.reloc λz v hz=>o8 e4 hc hz) nd2 ?_
 rw[tW,e3] at H2
 exact H2
theorem m9 {ih:Ih} (I:IhOk w rw1.prog ih)
  (C:Fx w fn A outer aZ base aY L p loose aC mg mb) (ac:fn.cs=none) {s:Shared} {b:List Stmt} (PE:PassesOwn (model rw1.prog w) A (fn.env L) E)
  (n:Now w G aY L loc st mm X aA s.heap) (ae:(adr X).Nodup) {gs:List Gr} (H:Hd w X gs) (hk:k<=st.length) {pis:List (List Nat)} {ns:List Str} {st1:List SO} {gs1:List Addr->List (List SO)} (hc:vs.all (eW k)=true)
  (run:∀ρ,Runs (cX (lf ρ k pis ns) (ih.S fn st loc b)) (some ⟨.next,st1,gs1 ρ,vs.map some⟩))
  (kk:∀ρ aS aV aB h' aU,Ext (adr aA) ρ->adr aB=(List.range k).map (λi=>ρ.getD i 0)->Now w G aY L (fD ρ k ns vs) (st1.map (cO ρ (List.range k))) aV aS aB h'->(adr aS).Nodup->
   Hd w aS (gs++(gs1 ρ).zip (pis.map λπ=>π.map λi=>ρ.getD i 0))->Q .next {s with heap:=h',toks:=aU}):
  wpAny (model rw1.prog w) A (execs b (fn.env L)) Q E s:=nA I C ac PE n ae H hc run kk
theorem eT {ih:Ih} (I:IhOk w rw1.prog ih)
  (C:Fx w fn A outer aZ base aY L p loose aC mg mb) (ac:fn.cs=none) {s:Shared} {b:List Stmt} (PE:PassesOwn (model rw1.prog w) A (fn.env L) E)
  (n:Now w G aY L loc st mm X aA s.heap) (ae:(adr X).Nodup) {gs:List Gr} (H:Hd w X gs) (hk:k<=st.length) {pis:List (List Nat)} {ns:List Str} {st1:List SO} {gs1:List (List SO)} (hc:vs.all (eW k)=true)
  (run:∀ρ,Runs (cX (lf ρ k pis ns) (ih.S fn st loc b)) (some ⟨.next,st1,gs1,vs.map some⟩))
  (kk:∀ρ aS aV aB h' aU,Ext (adr aA) ρ->adr aB=(List.range k).map (λi=>ρ.getD i 0)->Now w G aY L (fD ρ k ns vs) (st1.map (cO ρ (List.range k))) aV aS aB h'->(adr aS).Nodup->
   Hd w aS (gs++gs1.zip (pis.map λπ=>π.map λi=>ρ.getD i 0))->Q .next {s with heap:=h',toks:=aU}):
  wpAny (model rw1.prog w) A (execs b (fn.env L)) Q E s:=m9 I C ac PE n ae H hk (gs1:=λ_=>gs1) hc run kk
theorem b0 {i:Nat} (h:i<k):cD ρ (List.range k) (.obj i)=.obj i:=by
 show(match dP (List.range k) i 0 with|some k=>SV.obj k|none=>_)=_
 rw[mK h]
theorem cJ {i:Nat} (h:k<=i):cD ρ (List.range k) (.obj i)=.lit (.ref (ρ.getD i 0)):=by
 show(match dP (List.range k) i 0 with|some k=>SV.obj k|none=>_)=_
 rw[nQ h]
theorem gV {i:Nat} {C:Addr} (h:i<k):cO ρ (List.range k) (.inst C i)=.inst C i:=by
 show SO.inst C ((dP (List.range k) i 0).getD 0)=_
 rw[mK h]
 rfl
theorem mM {π:List Nat} (l:List (Str×Value)):eV ρ π (fC l)=fC l:=by
 delta eV fC
 rw[List.map_map]
 rfl
theorem cY {π:List Nat} (l:List Value):(l.map SV.lit).map (cD ρ π)=l.map SV.lit:=by
 rw[List.map_map];rfl
theorem sD {π:List Nat} (l:List Int):(l.map SV.int).map (cD ρ π)=l.map SV.int:=by
 rw[List.map_map];rfl
theorem nC {π:List Nat} (l:List Str):(l.map SV.str).map (cD ρ π)=l.map SV.str:=by
 rw[List.map_map];rfl
theorem qR {π:List Nat} (a b:List (Str×SV)):eV ρ π (a++b)=eV ρ π a++eV ρ π b:=bH
theorem qS (h:22<=k):eV ρ (List.range k) eq3=eq3:=by
 delta eV eq3
 simp only[bL,bf]
 rw[b0 (by omega),b0 (by omega),b0 (by omega)]
theorem LS.sel (s:LS) (h:22<=k):s.sT.map (cO ρ (List.range k))=s.sT:=by
 unfold LS.sT
 simp only[bL,bf]
 rw[gV (by omega),gV (by omega),gV (by omega),gV (by omega),gV (by omega),gV (by omega)]
 have a1:cO ρ (List.range k) (.cell (s.wd.map .int))=.cell (s.wd.map .int):=by
  cases s.wd<;>rfl
 have a2:∀i,i<k->cO ρ (List.range k) (.cell (some (.obj i)))=.cell (some (.obj i)):=λi hi=>by
  show SO.cell (some (cD _ _ _))=_
  rw[b0 hi]
 have a3:cO ρ (List.range k) (.listB 60 (s.cells.map .int))=.listB 60 (s.cells.map .int):=by
  show SO.listB 60 _=_
  rw[sD]
 have a4:cO ρ (List.range k) (.ud (eq3++fC s.eqs.lst))=.ud (eq3++fC s.eqs.lst):=by
  show SO.ud _=_
  rw[qR,qS h,mM]
 have a5:cO ρ (List.range k) (.ud eq3)=.ud eq3:=by
  show SO.ud _=_
  rw[qS h]
 have a6:cO ρ (List.range k) (.ud (fC s.secs))=.ud (fC s.secs):=by
  show SO.ud _=_
  rw[mM]
 have a7:cO ρ (List.range k) (.list (s.nms.map .str))=.list (s.nms.map .str):=by
  show SO.list _=_
  rw[nC]
 have a8:cO ρ (List.range k) (.listB 100 (s.told.map .str))=.listB 100 (s.told.map .str):=by
  show SO.listB 100 _=_
  rw[nC]
 have a9:∀a b c,cO ρ (List.range k) (vZ a b c)=vZ a b c:=λ_ _ _=>rfl
 have d1:∀x,cO ρ (List.range k) (.dict [("program",.obj 6),("section",.lit x),("scope",.obj 11)])=.dict [("program",.obj 6),("section",.lit x),("scope",.obj 11)]:=λx=>by
  show SO.dict (eV _ _ _)=_
  unfold eV
  simp only[bL,bf]
  rw[b0 (by omega),b0 (by omega)]
  rfl
 have d2:∀x,cO ρ (List.range k) (.dict [("sections",.obj 8),("names",.obj 9),("equates",.obj 10),("globals_",.lit x)])=.dict [("sections",.obj 8),("names",.obj 9),("equates",.obj 10),("globals_",.lit x)]:=λx=>by
  show SO.dict (eV _ _ _)=_
  unfold eV
  simp only[bL,bf]
  rw[b0 (by omega),b0 (by omega),b0 (by omega)]
  rfl
 have d3:cO ρ (List.range k) (.dict [("equates",.obj 13)])=.dict [("equates",.obj 13)]:=by
  show SO.dict (eV _ _ _)=_
  unfold eV
  simp only[bL,bf]
  rw[b0 (by omega)]
 have d4:cO ρ (List.range k) (.list [.str "count",.str "spot",.str "way"])=.list [.str "count",.str "spot",.str "way"]:=rfl
 rw[a1,a2 4 (by omega),a2 3 (by omega),a3,d1,d2,a6,a7,a4,d3,a5,a9,a9,a9,a8,d4]
end
noncomputable def PS.ak:PS->Int
 | .num w=>w
 | .neg w=>-(0-w)
 | .far m=>0+m
 | .dist=>0
 | .spot m=>0+7+-m
 | .way=>14
 | .bad m=>m+-0
noncomputable def PS.ix:PS->Nat
 | .num _=>30
 | .neg _=>36
 | .far _=>46
 | .dist=>48
 | .spot _=>58
 | .way=>66
 | .bad _=>48
noncomputable def tF:List Str:=["self","width","nodes","at","octets","fixups","affine"]
noncomputable def uW (wd:Int) (m:Nat) (b:Array UInt8) (a:SV):List SV:=[.obj 4,.int wd,.obj 23,.none,.bytes m b,.obj 24,a]
def eI (k:Int) (p m:Str):List SO:=[.inst 378 1,vZ k p m]
noncomputable def PS.len:PS->Nat
 | .num _=>3
 | .neg _=>5
 |_=>7
theorem rS1 (ρ:List Addr) (s:LS) (aE fx:List Value) (wd:Int) (m:Nat) (b:Array UInt8) (q:PS) (k:Nat):
  cX (lf ρ 25 [List.range' 25 q.len,[q.ix+1,q.ix]] tF) (E0.S (eJ (k+10)) (dQ s aE fx++q.grp.map (lG 25)) (dG wd m b [("node",.obj 26)]) [zI])=
   .ret (some ⟨.next,dQ s aE fx,[q.grp,eI q.ak q.plus q.minus],(uW wd m b (.obj (q.ix+1))).map some⟩):=by
 cases q with
 |num w=>kernel_rfl
 |neg w=>kernel_rfl
 |far m=>kernel_rfl
 |dist=>kernel_rfl
 |spot m=>kernel_rfl
 |way=>kernel_rfl
 |bad m=>kernel_rfl
theorem PS.len1 (q:PS):1<q.len:=by cases q<;>exact bA rfl
theorem PS.ix1 (q:PS):25<=q.ix+1:=by cases q<;>exact bA rfl
theorem PS.el (q:PS) {R:Prop} (h1:∀c,q=.num c->R) (h2:∀c,q=.neg c->R) (h3:∀c,q=.far c->R) (h4:∀c,q=.spot c->R) (h5:∀c,q=.bad c->R) (h6:q=.dist->R) (h7:q=.way->R):R:=by
 cases q with
 |num c=>exact h1 c rfl
 |neg c=>exact h2 c rfl
 |far c=>exact h3 c rfl
 |spot c=>exact h4 c rfl
 |bad c=>exact h5 c rfl
 |dist=>exact h6 rfl
 |way=>exact h7 rfl
theorem yU (q:PS):q.grp.length=q.len:=by cases q<;>rfl
inductive Wd where
 |b|w|l|q
noncomputable def Wd.n:Wd->Nat
 | .b=>1
 | .w=>2
 | .l=>4
 | .q=>8
noncomputable def Wd.lo:Wd->Int
 | .b=>-128
 | .w=>-32768
 | .l=>-2147483648
 | .q=>-9223372036854775808
noncomputable def Wd.hi:Wd->Int
 | .b=>255
 | .w=>65535
 | .l=>4294967295
 | .q=>18446744073709551615
def b9 (s:LS) (aE fx:List Value) (c:Int) (p m:Str):List SO:=dQ s aE fx++[.inst 378 26,vZ c p m]
def cB (wd:Wd) (m:Nat) (b:Array UInt8):Loc:=[("self",.obj 4),("width",.int wd.n),("nodes",.obj 23),("at",.none),("octets",.bytes m b),("fixups",.obj 24),("affine",.obj 25)]
theorem rT1 (s:LS) (aE fx:List Value) (wd:Wd) (c:Int) (m:Nat) (b:Array UInt8) (k:Nat):E0.T (eJ (k+10)) (b9 s aE fx c "" "") (cB wd m b) (fQ mZ)=.ret (true,b9 s aE fx c "" ""):=by kernel_rfl
theorem rT2 (s:LS) (aE fx:List Value) (wd:Wd) (c:Int) (m:Nat) (b:Array UInt8) (k:Nat):E0.T (eJ (k+10)) (b9 s aE fx c cV "") (cB wd m b) (fQ mZ)=.ret (false,b9 s aE fx c cV ""):=by kernel_rfl
theorem rT3 (s:LS) (aE fx:List Value) (wd:Wd) (c:Int) (m:Nat) (b:Array UInt8) (k:Nat):E0.T (eJ (k+10)) (b9 s aE fx c cV cC) (cB wd m b) (fQ mZ)=.ret (false,b9 s aE fx c cV cC):=by kernel_rfl
theorem rT4 (s:LS) (aE fx:List Value) (wd:Wd) (c:Int) (m:Nat) (b:Array UInt8) (k:Nat):E0.T (eJ (k+10)) (b9 s aE fx c cC cV) (cB wd m b) (fQ mZ)=.ret (false,b9 s aE fx c cC cV):=by kernel_rfl
theorem rT5 (s:LS) (aE fx:List Value) (wd:Wd) (c:Int) (m:Nat) (b:Array UInt8) (k:Nat):E0.T (eJ (k+10)) (b9 s aE fx c "" cC) (cB wd m b) (fQ mZ)=.ret (false,b9 s aE fx c "" cC):=by kernel_rfl
theorem rF (s:LS) (aE fx:List Value) (wd:Wd) (c:Int) (m:Nat) (b:Array UInt8) (k:Nat):E1.T (eJ (k+10)) (b9 s aE fx c "" "") (cB wd m b) (fQ kL)=
  .br (decide (wd.lo<=c)) (.ret (!decide (c<=wd.hi),b9 s aE fx c "" "")) (.ret (true,b9 s aE fx c "" "")):=by
 cases wd<;>kernel_rfl
noncomputable def rC:Nat->Int->List Int
 |0,_=>[]
 |k+1,r=>Builtin.bitAnd r 255::rC k (Int.fdiv r 256)
def cQ (wd:Wd) (c:Int):Array UInt8:=gW (rC wd.n (Builtin.bitAnd c wd.hi))
noncomputable def dW:List Str:=["self","width","nodes","at","octets","fixups"]
def eB (wd:Wd) (m:Nat) (b:Array UInt8):List SV:=[.obj 4,.int wd.n,.obj 23,.none,.bytes m b,.obj 24]
theorem rB (ρ:List Addr) (s:LS) (aE fx:List Value) (wd:Wd) (c:Int) (b:Array UInt8) (k:Nat):
  cX (lf ρ 25 [] dW) (E1.S (eJ (k+10)) (b9 s aE fx c "" "") (cB wd 40 b) [kP])=
   .br (xD (rC wd.n (Builtin.bitAnd c wd.hi))) (.ret (some ⟨.next,dQ s aE fx,[],(eB wd (40+wd.n) (b++cQ wd c)).map some⟩)) .no:=by
 cases wd<;>kernel_rfl
noncomputable def aB8 (a:Int) (wd:Int) (nm:Str) (c:Int):SO:=.dict [("at",.int a),("width",.int wd),("name",.str nm),("worth",.int c),("way",.str "abs")]
def AW (a:Int) (wd:Int) (nm:Str) (c:Int):List SO:=[.inst 175 1,aB8 a wd nm c]
def Sh.putF (v:SV):Sh->List (Str×SV)
 | .n=>[(kI,v)]
 | .f _=>[(kI,v)]
 | .r b=>[(kJ,.lit (cS b)),(kI,v)]
 | .fr _ b=>[(kI,v),(kJ,.lit (cS b))]
 | .rf b _=>[(kJ,.lit (cS b)),(kI,v)]
def Sh.putR (v:SV):Sh->List (Str×SV)
 | .n=>[(kJ,v)]
 | .f a=>[(kI,.lit (cS a)),(kJ,v)]
 | .r _=>[(kJ,v)]
 | .fr a _=>[(kI,.lit (cS a)),(kJ,v)]
 | .rf _ a=>[(kJ,v),(kI,.lit (cS a))]
noncomputable def Sh.addF (a:List Addr):Sh->Sh
 | .n=>.f a
 | .f _=>.f a
 | .r b=>.rf b a
 | .fr _ b=>.fr a b
 | .rf b _=>.rf b a
noncomputable def Sh.addR (b:List Addr):Sh->Sh
 | .n=>.r b
 | .f a=>.fr a b
 | .r _=>.r b
 | .fr a _=>.fr a b
 | .rf _ a=>.rf b a
def LS.stX (s:LS) (es:List (Str×SV)):List SO:=s.sT.set 10 (.ud (eq3++es))
def jD (s:LS) (es:List (Str×SV)) (aE fx:List Value) (j:Nat):List SO:=s.stX es++[.list (aE.map .lit),.fz,.listB 6 (fx.map .lit++[.obj j])]
theorem rA1 (ρ:List Addr) (s:LS) (aE fx:List Value) (wd:Wd) (c:Int) (b:Array UInt8) (k:Nat):
  cX (lf ρ 25 [[28,27]] dW) (E0.S (eJ (k+10)) (b9 s aE fx c cV "") (cB wd 40 b) [mF,jK])=
   .br true (.ret (some ⟨.next,jD s (fC s.eqs.lst) aE fx 28,[AW b.size wd.n cV c],(eB wd (40+wd.n) (b++Array.replicate wd.n 0)).map some⟩)) .no:=by
 cases wd<;>kernel_rfl
theorem rA2 (ρ:List Addr) (s:LS) (sh:Sh) (aE fx:List Value) (wd:Wd) (c:Int) (b:Array UInt8) (k:Nat):
  cX (lf ρ 25 [[30,29],[28,27]] dW) (E0.S (eJ (k+10)) (b9 {s with eqs:=sh} aE fx c cV cC) (cB wd 40 b) [mF,jK])=
   .br true (.ret (some ⟨.next,jD s (sh.putF (.obj 28)) aE fx 30,[AW b.size wd.n kI c,eI 0 cV cC],(eB wd (40+wd.n) (b++Array.replicate wd.n 0)).map some⟩)) .no:=by
 cases wd<;>cases sh<;>kernel_rfl
theorem rA3 (ρ:List Addr) (s:LS) (sh:Sh) (aE fx:List Value) (wd:Wd) (c:Int) (b:Array UInt8) (k:Nat):
  cX (lf ρ 25 [[30,29],[28,27]] dW) (E0.S (eJ (k+10)) (b9 {s with eqs:=sh} aE fx c cC cV) (cB wd 40 b) [mF,jK])=
   .br true (.ret (some ⟨.next,jD s (sh.putR (.obj 28)) aE fx 30,[AW b.size wd.n kJ c,eI 0 cC cV],(eB wd (40+wd.n) (b++Array.replicate wd.n 0)).map some⟩)) .no:=by
 cases wd<;>cases sh<;>kernel_rfl
section
variable {w:World}
def j2 (its:dJ):Gr:=(its.map λp=>.raw p.2,adr its)
theorem MX {its:dJ} (nd:(adr its).Nodup):Grp w (j2 its).1 its:=λG=>⟨by simp[j2],nd,λi so h=>by
 have h:(its.map λp=>SO.raw p.2)[i]? =some so:=h
 rw[bp] at h
 cases e:its[i]? with
 |none=>rw[e] at h;first|exact b5 h|cases h
 |some p=>
  rw[e] at h
  replace h:=oS h;subst h
  exact⟨p,rfl,rfl⟩⟩
theorem TD {its g:dJ} (R:Grp w (j2 its).1 g) (e:adr g=adr its):g=its:=by
 have l:g.length=its.length:=by
  have:=R.len
  simpa [j2] using this
 apply List.ext_getElem l
 intro i h1 h2
 have h3:(j2 its).1[i]? =some (.raw its[i].2):=by
  show(its.map λp=>SO.raw p.2)[i]? =_
  rw[bp,bR h2]
  rfl
 refine b7 ((R λ_=>default).at_ i _ h3) λp hp hr=>?_
 have hr:p.2=its[i].2:=hr
 rw[bR h1] at hp
 replace hp:=bS hp
 have h4:(adr g)[i]? =(adr its)[i]? :=by rw[e]
 simp[adr,h1,h2] at h4
 exact Prod.ext h4 (by rw[hp];exact hr)
theorem Hd.drop {gs:List Gr} {p:Gr} (H:Hd w xs (p::gs)):∃g,adr g=p.2/\Grp w p.1 g/\Has xs g/\Hd w (minus xs g) gs:=by
 refine qM (H.1 p (.head _)) λg h1 h2 h3=>?_
 have nd:=H.2
 rw[ba,bZ] at nd
 refine⟨g,h1,h2,h3,λq hq=>?_,nd.2.1⟩
 refine qM (H.1 q (.tail _ hq)) λg' e1 e2 e3=>?_
 refine⟨g',e1,e2,λz hz=>mem_minus.mpr ⟨e3 z hz,λhm=>?_⟩⟩
 rw[h1] at hm
 exact nd.2.2 _ hm _ (List.mem_flatMap.mpr ⟨q,hq,e1▸bY.mpr ⟨z,hz,rfl⟩⟩) rfl
theorem p4 {its:dJ} {gs:List Gr} (nd:(adr (its++xs)).Nodup) (H:Hd w xs gs):Hd w (its++xs) (j2 its::gs):=by
 rw[adr,bH,bZ] at nd
 refine⟨λp hp=>?_,?_⟩
 ·rcases bX.mp hp with rfl|hp
  ·exact⟨its,rfl,MX nd.1,λq hq=>bK _ hq⟩
  ·refine qM (H.1 p hp) λg h1 h2 h3=>?_
   exact⟨g,h1,h2,λq hq=>ay _ (h3 q hq)⟩
 ·rw[ba,bZ]
  refine⟨nd.1,H.2,λa ha b hb=>?_⟩
  refine b7 (List.mem_flatMap.mp hb) λq hq hb=>?_
  exact nd.2.2 a ha b (H.adr hq hb)
theorem kF {its:dJ} {gs:List Gr} {h:Heap} (n:Now w G aY L loc st mm xs aA h) (nd:(adr xs).Nodup) (hL:∀c,L.c=some c->(c.C,c.oC)∈its) (H:Hd w xs (j2 its::gs)):
  ∃aS,Now w G aY L loc st mm (its++aS) aA h/\(adr (its++aS)).Nodup/\Hd w aS gs:=by
 refine DU (Hd.drop H) λg h1 h2 h3 h4=>?_
 have e:=TD h2 h1
 subst e
 refine⟨minus xs g,n.sub (λc hc=>bK _ (hL c hc)) λp hp=>?_,?_,h4⟩
 ·rcases bN.mp hp with e|e
  ·exact h3 p e
  ·exact(mem_minus.mp e).1
 ·rw[adr,bH,bZ]
  refine⟨((h2 λ_=>default).nd),gD nd,λa ha b hb=>?_⟩
  refine b7 (bY.mp hb) λq hq z1=>?_;subst z1
  exact λe=>(mem_minus.mp hq).2 (e▸ha)
theorem Now.as {loc':Loc} {h:Heap} (n:Now w G aY L loc st mm xs aA h) (s:∀x v,lk loc' x=some v->VL L mm (adr aA) x v):Now w G aY L loc' st mm xs aA h:=
 ⟨n.F,n.NX,n.CX,n.off,n.R,s⟩
theorem Now.weak {h:Heap} (n:Now w G aY L loc st mm xs aA h) {i:Nat} {so so':SO} (hi:st[i]? =some so) (ho:∀ρ a o,RO w G ρ a so o->RO w G ρ a so' o):Now w G aY L loc (st.set i so') mm xs aA h:=by
 refine⟨n.F,n.NX,n.CX,n.off,⟨by rw[bq];exact n.R.len,n.R.nd,λj x hx=>?_⟩,n.V⟩
 rw[bc] at hx
 by_cases e:i=j
 ·subst e
  have:i<st.length:=rV hi
  simp[this] at hx
  subst hx
  refine b7 (n.R.at_ i _ hi) λp hp hr=>?_
  exact⟨p,hp,ho _ _ _ hr⟩
 ·simp[e] at hx
  exact n.R.at_ j x hx
end
theorem lW {M:Model} {env:Env} {rest:List Stmt} {Γ:Ctx} (hΓ:Γ.In A):∀{b:List Stmt} {p:Pos} {s:Shared},
  Sem.wp M Γ (execs b env) (λf _ s'=>match f with| .next=>wpAny M A (execs rest env) Q E s'|f=>Q f s') (λe _ s'=>E e s') p s->Sem.wp M Γ (execs (b++rest) env) (λf _ s'=>Q f s') (λe _ s'=>E e s') p s
 |[],p,s,h=>by
  rw[execs_nil,Sem.wp_pure'] at h
  exact h Γ p hΓ
 |x::b,p,s,h=>by
  rw[bk]
  rw[execs_cons,Sem.wp_bind'] at h ⊢
  refine Sem.wp_mono M Γ _ (λf p' s' h'=>?_) (λ_ _ _ h'=>h') _ _ h
  cases f with
  |next=>exact lW hΓ h'
  |_=>rw[Sem.wp_pure'] at h' ⊢;exact h'
theorem dS {M:Model} {env:Env} {rest b:List Stmt} (h:wpAny M A (execs b env) (λf s'=>match f with| .next=>wpAny M A (execs rest env) Q E s'|f=>Q f s') E s):wpAny M A (execs (b++rest) env) Q E s:=
 λΓ p hΓ=>lW hΓ (h Γ p hΓ)
theorem PS.ak_eq (q:PS):q.ak=q.worth:=by
 cases q<;>simp only[PS.ak,PS.worth]<;>omega
inductive Err where
 |enc|sym|lay
noncomputable def Err.cls:Err->Addr
 | .enc=>71
 | .sym=>83
 | .lay=>95
def iM (wd:Wd) (c:Int):Bool:=decide (wd.lo<=c)&&decide (c<=wd.hi)
structure Fld where
 at_:Int
 nm:Str
 c:Int
def cI (wd:Wd):Array UInt8:=Array.replicate wd.n 0
def fR (wd:Wd) (b:Array UInt8) (fs:List Fld):PS->Except Err (Array UInt8×List Fld)
 | .num c=>if iM wd c then .ok (b++cQ wd c,fs) else .error .enc
 | .neg c=>if iM wd c then .ok (b++cQ wd c,fs) else .error .enc
 | .far m=>.ok (b++cI wd,fs++[⟨b.size,cV,m⟩])
 | .dist=>.ok (b++cI wd,fs++[⟨b.size,kI,0⟩])
 | .spot m=>.ok (b++cI wd,fs++[⟨b.size,cV,7-m⟩])
 | .way=>.ok (b++cI wd,fs++[⟨b.size,kJ,14⟩])
 | .bad _=>.error .sym
noncomputable def gM (wd:Wd) (b:Array UInt8) (fs:List Fld):List PS->Except Err (Array UInt8×List Fld)
 |[]=>.ok (b,fs)
 |q::r=>match fR wd b fs q with
  | .ok x=>gM wd x.1 x.2 r
  | .error e=>.error e
theorem qP (wd:Wd):∀(l r:List PS) (b:Array UInt8) (fs:List Fld),gM wd b fs (l++r)=match gM wd b fs l with
  | .ok x=>gM wd x.1 x.2 r
  | .error e=>.error e
 |[],r,b,fs=>rfl
 |q::l,r,b,fs=>by
  rw[bk]
  show(match fR wd b fs q with| .ok x=>gM wd x.1 x.2 (l++r)| .error e=>.error e)=match(match fR wd b fs q with| .ok x=>gM wd x.1 x.2 l| .error e=>.error e:Except Err (Array UInt8×List Fld)) with| .ok x=>gM wd x.1 x.2 r| .error e=>.error e
  cases fR wd b fs q with
  |ok x=>exact qP wd l r x.1 x.2
  |error e=>rfl
theorem u8:∀(n:Nat) (c:Int),(rC n c).length=n
 |0,_=>rfl
 |n+1,c=>by unfold rC;rw[List.length_cons,u8]
theorem gQ (wd:Wd) (c:Int):(cQ wd c).size=wd.n:=by
 delta cQ gW
 simp[u8]
theorem xX {wd:Wd} {b b':Array UInt8} {fs fs':List Fld} {q:PS} (h:fR wd b fs q=.ok (b',fs')):b'.size=b.size+wd.n/\fs'.length<=fs.length+1:=by
 cases q<;>simp only[fR] at h
 case num c=>split at h<;>cases h;exact⟨by rw[Array.size_append,gQ],Nat.le_succ _⟩
 case neg c=>split at h<;>cases h;exact⟨by rw[Array.size_append,gQ],Nat.le_succ _⟩
 case bad m=>exact UE h
 all_goals ((refine okP h λe1 e2=>?_;clear h;subst e1 e2);exact⟨by simp[cI],by simp⟩)
theorem iU {wd:Wd}:∀{l:List PS} {b b':Array UInt8} {fs fs':List Fld},gM wd b fs l=.ok (b',fs')->b'.size=b.size+wd.n*l.length/\fs'.length<=fs.length+l.length
 |[],_,_,_,_,h=>by(refine okP h λe1 e2=>?_;clear h;subst e1 e2);simp
 |q::l,b,b',fs,fs',h=>by
  unfold gM at h
  cases e:fR wd b fs q with
  |error x=>rw[e] at h;exact UE h
  |ok x=>
   rw[e] at h
   obtain⟨h1,h2⟩:=xX (b':=x.1) (fs':=x.2) e
   obtain⟨h3,h4⟩:=iU h
   rw[List.length_cons]
   constructor
   ·rw[h3,h1,Nat.mul_add,Nat.mul_one];omega
   ·omega
theorem Wd.n_le (wd:Wd):wd.n<=8:=by cases wd<;>decide
theorem m4:∀(n:Nat) (r:Int),xD (rC n r)=true
 |0,_=>rfl
 |n+1,r=>by
  unfold rC xD
  rw[bh,bG]
  refine⟨?_,m4 n _⟩
  rw[bitAnd_m8]
  simp only[decide_eq_true_eq]
  omega
def cF (p:PS×List Addr):Value:=cS p.2
noncomputable def cZ (p:PS×List Addr):Value:=.ref (p.2.getD 1 0)
def pg (p:PS×List Addr):Gr:=(p.1.grp,p.2)
def fg (wd:Wd) (p:Fld×List Addr):Gr:=(AW p.1.at_ wd.n p.1.nm p.1.c,p.2)
def Sh.grs:Sh->List Gr
 | .n=>[]
 | .f a=>[(eI 0 cV cC,a)]
 | .r b=>[(eI 0 cC cV,b)]
 | .fr a b=>[(eI 0 cV cC,a),(eI 0 cC cV,b)]
 | .rf b a=>[(eI 0 cC cV,b),(eI 0 cV cC,a)]
noncomputable def Sh.hasF:Sh->Bool
 | .n=>false
 | .f _=>true
 | .r _=>false
 | .fr _ _=>true
 | .rf _ _=>true
noncomputable def Sh.hasR:Sh->Bool
 | .n=>false
 | .f _=>false
 | .r _=>true
 | .fr _ _=>true
 | .rf _ _=>true
def ShGe (a b:Sh):Prop:=(a.hasF=true->b.hasF=true)/\(a.hasR=true->b.hasR=true)
theorem ShGe.rfl' {a:Sh}:ShGe a a:=⟨id,id⟩
theorem ShGe.trans {a b c:Sh} (x:ShGe a b) (y:ShGe b c):ShGe a c:=⟨λh=>y.1 (x.1 h),λh=>y.2 (x.2 h)⟩
def needs (sh:Sh):PS->Prop
 | .dist=>sh.hasF=true
 | .way=>sh.hasR=true
 |_=>True
theorem needs.ge {a b:Sh} (x:ShGe a b):∀{q:PS},needs a q->needs b q
 | .dist,h=>x.1 h
 | .way,h=>x.2 h
 | .num _,_=>trivial
 | .neg _,_=>trivial
 | .far _,_=>trivial
 | .spot _,_=>trivial
 | .bad _,_=>trivial
def MK:Expr:=match iC with| .For t _ _ _ _=>t|_=>.Constant .none 0 default
def HB:Expr:=match iC with| .For _ i _ _ _=>i|_=>.Constant .none 0 default
theorem HG (k:Nat) (st:List SO) (wd:Int) (m:Nat) (b:Array UInt8) (v:SV):mQ (eJ k) st (dG wd m b []) MK (.val v)=some (st,dG wd m b [("node",v)]):=by kernel_rfl
theorem fU (s:LS) (aE fx:List Value):(dQ s aE fx).length=25:=rfl
section
variable {w:World}
theorem uZ (s:LS) (aE fx:List Value) (ρ:List Addr) (h:25<=k):(dQ s aE fx).map (cO ρ (List.range k))=dQ s aE fx:=by
 unfold dQ
 rw[bH,LS.sel s (by omega)]
 congr 1
 simp only[bL,bf]
 have a1:∀l:List Value,cO ρ (List.range k) (.list (l.map .lit))=.list (l.map .lit):=λl=>by
  show SO.list _=_
  rw[cY]
 have a2:∀l:List Value,cO ρ (List.range k) (.listB 5 (l.map .lit))=.listB 5 (l.map .lit):=λl=>by
  show SO.listB 5 _=_
  rw[cY]
 rw[a1,a2]
 rfl
theorem iD {h:Heap} (n:Now w G aY L loc st mm xs aA h) {x:Str} {a:Addr} {i:Nat} (hx:lk loc x=some (.lit (.ref a))) (ha:(adr aA)[i]? =some a):Now w G aY L (jG loc x (.obj i)) st mm xs aA h:=by
 refine Now.as n λy v hy=>?_
 rw[p8] at hy
 by_cases e:y=x
 ·rw[if_pos e] at hy
  replace hy:=oS hy;subst hy
  rw[<-e] at hx
  refine b7 (n.V y _ hx) λu h1 h2=>?_
  obtain rfl:u=.ref a:=h2
  exact jQ ⟨_,h1,a,ha,rfl⟩
 ·rw[if_neg e] at hy
  exact n.V y v hy
theorem gU {h:Heap} (n:Now w G aY L loc st mm xs aA h) {x:Str} {m m':Nat} {b:Array UInt8} (hx:lk loc x=some (.bytes m b)) (hb:b.size<=m'):Now w G aY L (jG loc x (.bytes m' b)) st mm xs aA h:=by
 refine Now.as n λy v hy=>?_
 rw[p8] at hy
 by_cases e:y=x
 ·rw[if_pos e] at hy
  replace hy:=oS hy;subst hy
  rw[<-e] at hx
  refine qM (n.V y _ hx) λu h1 h2 _=>?_
  exact jQ ⟨u,h1,h2,hb⟩
 ·rw[if_neg e] at hy
  exact n.V y v hy
end
noncomputable def aB9 (a b c d e f g:SV):Loc:=[("self",a),("width",b),("nodes",c),("at",d),("octets",e),("fixups",f),("affine",g)]
noncomputable def MB (a b c d e f:SV):Loc:=[("self",a),("width",b),("nodes",c),("at",d),("octets",e),("fixups",f)]
section
variable {w:World}
theorem xC (C:Fx w (eJ (k+10)) A outer aZ base aY L p loose aC mg mb)
  {s0:Shared} {s:LS} {aE fx:List Value} {wd:Wd} {b:Array UInt8} {q:PS} {as:List Addr} {gsA gsB:List Gr} (PE:PassesOwn (model rw1.prog w) A ((eJ (k+10)).env L) E)
  (n:Now w G aY L (dG wd.n 40 b []) (dQ s aE fx) mm X aA s0.heap) (ae:(adr X).Nodup) (H:Hd w X (gsA++(q.grp,as)::gsB)) (hv:v=.ref (as.getD 1 0))
  (kk:∀aV aS aB h' aU g,adr aB=adr aA++adr g->Now w G aY L (cB wd 40 b) (b9 s aE fx q.worth q.plus q.minus) aV aS aB h'->(adr aS).Nodup->Hd w aS (gsA++(q.grp,as)::gsB)->
   wpAny (model rw1.prog w) A (execs [.If (fQ mZ) [.If (fQ kL) [jA] [] (oQ kL),kP] [mF,jK] (oQ mZ)] ((eJ (k+10)).env L)) Q E {s0 with heap:=h',toks:=aU}):
  wpAny (model rw1.prog w) A (assign MK ((eJ (k+10)).fenv L) v) (λ_ s₃=>wpAny (model rw1.prog w) A (execs iS ((eJ (k+10)).fenv L)) Q E s₃) E s0:=by
 have ac:(eJ (k+10)).cs=none:=rfl
 have hL:=C.c0 ac
 obtain⟨g,eg,Rg,n1,nd1,H1⟩:=H.focus n (λc hc=>by rw[hL] at hc;exact b5 hc) ae
 rw[fU] at n1
 have hgl:g.length=q.len:=by rw[Rg.len,yU]
 have hnl:aA.length=25:=by rw[n.R.len,fU]
 have hr:RV (adr (aA++g)) (.obj 26) v:=by
  refine⟨as.getD 1 0,?_,hv⟩
  have h1:(adr (aA++g))[26]? =(adr g)[1]? :=by
   simp only[adr,bH]
   rw[bV (by simp[hnl])]
   simp[hnl]
  rw[h1,eg,bC]
  have:1<as.length:=by
   have e2:(adr g).length=as.length:=by rw[eg]
   rw[<-e2]
   simp only[adr,bF,hgl]
   exact q.len1
  rw[bR this]
  rfl
 refine lJ C.hk ac C.hh hL (HG _ _ _ _ _ _) n1 ⟨v,rfl,hr⟩ (show v=v from rfl) λaQ aJ h2 aX x2 n2=>?_
 rw[uX]
 show wpAny _ A (execs ([zI]++[_]) _) Q E _
 refine dS ?_
 have n2:Now w G aY L (dG wd.n 40 b [("node",.obj 26)]) (dQ s aE fx++q.grp.map (lG 25)) aQ (minus X g) aJ h2:=n2
 have hlen:25<=(dQ s aE fx++q.grp.map (lG 25)).length:=by rw[bI,fU];omega
 have hc:(uW wd.n 40 b (.obj (q.ix+1))).all (eW 25)=true:=rfl
 rw[show(eJ (k+10)).fenv L=(eJ (k+10)).env L from rfl]
 refine eT (ih:=E0) (s:={s0 with heap:=h2,toks:=aX}) (I0 w) C ac (loc:=dG wd.n 40 b [("node",.obj 26)]) (st:=dQ s aE fx++q.grp.map (lG 25)) (b:=[zI]) PE n2 nd1 H1 (k:=25) (pis:=[List.range' 25 q.len,[q.ix+1,q.ix]]) (ns:=tF) (st1:=dQ s aE fx) (gs1:=[q.grp,eI q.ak q.plus q.minus]) (vs:=uW wd.n 40 b (.obj (q.ix+1))) hlen hc (λρ=>.ret (rS1 ρ s aE fx wd.n 40 b q k)) λρ xs3 mm3 aK h3 tk3 x3 ea3 n3 nd3 H3=>?_
 rw[uZ _ _ _ _ (Nat.le_refl _)] at n3
 have x13:=x2.trans x3
 have er:=eR x13
 rw[hnl,hgl] at er
 have e3:adr aK=adr aA:=ea3.trans er.1
 have H4:Hd w xs3 ((gsA++(q.grp,as)::gsB)++[(eI q.worth q.plus q.minus,[ρ.getD (q.ix+1) 0,ρ.getD q.ix 0])]):=by
  rw[bL,er.2,eg,PS.ak_eq] at H3
  refine Hd.perm ?_ H3
  simp only[List.zip_cons_cons,bL,bf,List.zip_nil_right,bB,bk]
  refine bJ _ ?_
  exact bt
 obtain⟨g2,eg2,Rg2,n4,nd4,H5⟩:=Hd.focus (gs₂:=[]) H4 n3 (λc hc=>by rw[hL] at hc;exact b5 hc) nd3
 rw[bQ] at H5
 rw[fU] at n4
 have n5:=iD n4 (x:="affine") (a:=ρ.getD (q.ix+1) 0) (i:=25) (by
  show some (DE ρ 25 (.obj (q.ix+1)))=_
  have:25<=q.ix+1:=q.ix1
  show some (cD ρ (List.range 25) (.obj (q.ix+1)))=_
  rw[cJ this]) (by
  have hl3:aK.length=25:=by rw[n3.R.len,fU]
  have:(adr (aK++g2))[25]? =(adr g2)[0]? :=by
   simp only[adr,bH]
   rw[bV (by simp[hl3])]
   simp[hl3]
  rw[this,eg2]
  rfl)
 have eL:jG (fD ρ 25 tF (uW wd.n 40 b (.obj (q.ix+1)))) "affine" (.obj 25)=cB wd 40 b:=by
  have h1:fD ρ 25 tF (uW wd.n 40 b (.obj (q.ix+1)))=aB9 (cD ρ (List.range 25) (.obj 4)) (.int wd.n) (cD ρ (List.range 25) (.obj 23)) .none (.bytes 40 b) (cD ρ (List.range 25) (.obj 24)) (cD ρ (List.range 25) (.obj (q.ix+1))):=rfl
  rw[h1,b0 (by omega),b0 (by omega),b0 (by omega)]
  rfl
 rw[eL] at n5
 exact kk mm3 _ _ h3 tk3 g2 (by simp[adr] at e3 ⊢;exact e3) n5 nd4 H5
end
theorem eX:∃W:Pos×Expr×Expr×Pos×Pos,jA=.Raise (some (.Call (.Name "EncodeError" W.1) [W.2.1,W.2.2.1] [] W.2.2.2.1)) none W.2.2.2.2/\
  (∀(k:Nat) (st:List SO) (wd:Wd) (o:Array UInt8),E0.E (eJ (k+10)) st (cB wd 40 o) (.Name "EncodeError" W.1)=.ret (.lit (.ref 71),st))/\
  (∀(k:Nat) (st:List SO) (wd:Wd) (o:Array UInt8),oH E0 (eJ (k+10)) st (cB wd 40 o) [W.2.1,W.2.2.1]=.ret ([.str "a number beyond its octets",.none],st)):=
 ⟨(_,_,_,_,_),rfl,λk st wd o=>by kernel_rfl,λk st wd o=>by kernel_rfl⟩
def OE:Pos:=(az eX).1
def Y1:Expr:=(az eX).2.1
def Y2:Expr:=(az eX).2.2.1
def MJ:Pos:=(az eX).2.2.2.1
def RI:Pos:=(az eX).2.2.2.2
theorem BB:jA=.Raise (some (.Call (.Name "EncodeError" OE) [Y1,Y2] [] MJ)) none RI/\
  (∀(k:Nat) (st:List SO) (wd:Wd) (o:Array UInt8),E0.E (eJ (k+10)) st (cB wd 40 o) (.Name "EncodeError" OE)=.ret (.lit (.ref 71),st))/\
  (∀(k:Nat) (st:List SO) (wd:Wd) (o:Array UInt8),oH E0 (eJ (k+10)) st (cB wd 40 o) [Y1,Y2]=.ret ([.str "a number beyond its octets",.none],st)):=Classical.choose_spec eX
theorem take_getD {l ρ:List Addr} {k:Nat} (x:Ext l ρ) (h:k<=l.length):(List.range k).map (λi=>ρ.getD i 0)=l.take k:=by
 obtain⟨t,rfl⟩:=x
 apply List.ext_getElem
 ·simp[h]
 ·intro i h1 h2
  have hi:i<k:=by simpa using h1
  have hi2:i<l.length:=Nat.lt_of_lt_of_le hi h
  rw[bw,List.getElem_range,List.getElem_take,bC,bU hi2,bR hi2]
  rfl
section
variable {w:World}
theorem HL (C:Fx w (eJ (k+10)) A outer aZ base aY L p loose aC mg mb)
  {s0:Shared} {s:LS} {aE fx:List Value} {wd:Wd} {b:Array UInt8} {c:Int} {gs:List Gr} (PE:PassesOwn (model rw1.prog w) A ((eJ (k+10)).env L) E)
  (n:Now w G aY L (cB wd 40 b) (b9 s aE fx c "" "") mm X aA s0.heap) (ae:(adr X).Nodup) (H:Hd w X gs) (hb:b.size+wd.n<=40)
  (ao:iM wd c=true->∀aV aS aB h' aU,adr aB=(adr aA).take 25->Now w G aY L (dG wd.n 40 (b++cQ wd c) []) (dQ s aE fx) aV aS aB h'->(adr aS).Nodup->Hd w aS gs->Q .next {s0 with heap:=h',toks:=aU})
  (ap:iM wd c=false->∀h' aU aB e,Ext (adr aA) (adr aB)->Now w G aY L (cB wd 40 b) (b9 s aE fx c "" "") mm X aB h'->(∃oe,h'.get? e=some oe/\iF 71 oe)->aY.get? e=none->(∀q∈X++aB,q.1≠e)->E (.ref e) {s0 with heap:=h',toks:=aU}):
  wpAny (model rw1.prog w) A (execs [.If (fQ mZ) [.If (fQ kL) [jA] [] (oQ kL),kP] [mF,jK] (oQ mZ)] ((eJ (k+10)).env L)) Q E s0:=by
 have ac:(eJ (k+10)).cs=none:=rfl
 have hL:=C.c0 ac
 refine wpAny_execs_cons (wpAny_If ((I0 w).Tq _ _ _ _ C (cP (rT1 s aE fx wd c 40 b k)) n λaI h1 aW x1 n1=>?_))
 simp only[if_true]
 refine wpAny_execs_cons (wpAny_If ((I1 w).T _ _ _ _ C (φ:=λy=>y=(!iM wd c,b9 s aE fx c "" "")) ?_ n1 λv st2 aJ h2 aX af x2 n2=>?_))
 ·rw[rF]
  unfold iM
  refine⟨λe=>?_,λe=>?_⟩
  ·show _=_
   rw[e,Bool.true_and]
  ·show _=_
   rw[e,Bool.false_and]
   rfl
 injection af with e1 e2
 subst e1;replace n2:=e2▸n2
 cases hf:iM wd c with
 |true=>
  simp only[Bool.not_true,bW,if_false]
  refine wpAny_execs_nil ?_
  show wpAny _ A (execs [kP] _) _ E _
  have hlen:25<=(b9 s aE fx c "" "").length:=by
   show 25<=27
   omega
  have hc:(eB wd (40+wd.n) (b++cQ wd c)).all (eW 25)=true:=rfl
  refine eT (ih:=E1) (s:={s0 with heap:=h2,toks:=aX}) (I1 w) C ac (loc:=cB wd 40 b) (st:=b9 s aE fx c "" "") (b:=[kP]) ?_ n2 ae H (k:=25) (pis:=[]) (ns:=dW) (st1:=dQ s aE fx) (gs1:=[]) (vs:=eB wd (40+wd.n) (b++cQ wd c)) hlen hc (λρ=>.br _ (m4 _ _) (rB ρ s aE fx wd c b k)) λρ xs3 mm3 aK h3 tk3 x3 ea3 n3 nd3 H3=>?_
  ·exact PE
  rw[uZ _ _ _ _ (Nat.le_refl _)] at n3
  have hbs:(b++cQ wd c).size<=40:=by rw[Array.size_append,gQ];exact hb
  have n4:=gU n3 (x:="octets") (m:=40+wd.n) (m':=40) (b:=b++cQ wd c) rfl hbs
  have eL:jG (fD ρ 25 dW (eB wd (40+wd.n) (b++cQ wd c))) "octets" (.bytes 40 (b++cQ wd c))=dG wd.n 40 (b++cQ wd c) []:=by
   have h1:jG (fD ρ 25 dW (eB wd (40+wd.n) (b++cQ wd c))) "octets" (.bytes 40 (b++cQ wd c))=MB (cD ρ (List.range 25) (.obj 4)) (.int wd.n) (cD ρ (List.range 25) (.obj 23)) .none (.bytes 40 (b++cQ wd c)) (cD ρ (List.range 25) (.obj 24)):=rfl
   rw[h1,b0 (by omega),b0 (by omega),b0 (by omega)]
   rfl
  rw[eL] at n4
  refine wpAny_execs_nil (ao hf mm3 xs3 aK h3 tk3 ?_ n4 nd3 (by simpa using H3))
  rw[ea3]
  have hl:25<=(adr aA).length:=by
   have:=n.R.len
   simp only[adr,bF]
   rw[this]
   exact hlen
  exact take_getD ((x1.trans x2).trans x3) hl
 |false=>
  simp only[Bool.not_false,if_true]
  refine jN BB λhR hN hA=>?_
  rw[hR]
  refine wpAny_execs_cons (m7 C ac (XF w) (k:=k+9) rfl n2 (hN k _ wd b) (hA k _ wd b) λh3 tk3 aK e x3 n3 he e0 ne=>?_)
  exact ap hf h3 tk3 aK e ((x1.trans x2).trans x3) n3 he e0 ne
end
theorem Sh.putF_sel {j:Nat} (h:k<=j) (sh:Sh) (l:List Addr) (hl:l.getD 0 0=ρ.getD j 0):eV ρ (List.range k) (sh.putF (.obj j))=fC (sh.addF l).lst:=by
 have e:cD ρ (List.range k) (.obj j)=.lit (cS l):=by rw[cJ h];unfold cS;rw[hl]
 cases sh<;>(unfold eV Sh.putF Sh.addF Sh.lst fC;simp only[bL,bf,e])<;>rfl
theorem Sh.putR_sel {j:Nat} (h:k<=j) (sh:Sh) (l:List Addr) (hl:l.getD 0 0=ρ.getD j 0):eV ρ (List.range k) (sh.putR (.obj j))=fC (sh.addR l).lst:=by
 have e:cD ρ (List.range k) (.obj j)=.lit (cS l):=by rw[cJ h];unfold cS;rw[hl]
 cases sh<;>(unfold eV Sh.putR Sh.addR Sh.lst fC;simp only[bL,bf,e])<;>rfl
theorem LS.stX_sel (s:LS) (h:22<=k) {es:List (Str×SV)} {sh:Sh} (he:eV ρ (List.range k) es=fC sh.lst):(s.stX es).map (cO ρ (List.range k))=({s with eqs:=sh}:LS).sT:=by
 unfold LS.stX
 rw[List.map_set,LS.sel s h]
 have:cO ρ (List.range k) (.ud (eq3++es))=.ud (eq3++fC sh.lst):=by
  show SO.ud _=_
  rw[qR,qS h,he]
 rw[this]
 rfl
theorem uY (s:LS) {es:List (Str×SV)} {sh:Sh} (he:eV ρ (List.range 25) es=fC sh.lst) (aE fx:List Value) {j:Nat} (hj:25<=j):
  (jD s es aE fx j).map (cO ρ (List.range 25))=({s with eqs:=sh}:LS).sT++[.list (aE.map .lit),.fz,.listB 6 ((fx++[Value.ref (ρ.getD j 0)]).map .lit)]:=by
 unfold jD
 rw[bH,LS.stX_sel s (by omega) he]
 congr 1
 simp only[bL,bf]
 have a1:cO ρ (List.range 25) (.list (aE.map .lit))=.list (aE.map .lit):=by
  show SO.list _=_
  rw[cY]
 have a2:cO ρ (List.range 25) (.listB 6 (fx.map .lit++[.obj j]))=.listB 6 ((fx++[Value.ref (ρ.getD j 0)]).map .lit):=by
  show SO.listB 6 _=_
  rw[bH,cY,bH]
  simp only[bL,bf]
  rw[cJ hj]
 rw[a1,a2]
 rfl
section
variable {w:World}
theorem qJ (C:Fx w (eJ (k+10)) A outer aZ base aY L p loose aC mg mb)
  {s0:Shared} {s:LS} {aE fx:List Value} {wd:Wd} {b:Array UInt8} {c:Int} {pl mi:Str} {gs:List Gr} (PE:PassesOwn (model rw1.prog w) A ((eJ (k+10)).env L) E)
  (n:Now w G aY L (cB wd 40 b) (b9 s aE fx c pl mi) mm X aA s0.heap) (ae:(adr X).Nodup) (H:Hd w X gs) (hb:b.size+wd.n<=40) (av:fx.length+1<=5)
  (hT:E0.T (eJ (k+10)) (b9 s aE fx c pl mi) (cB wd 40 b) (fQ mZ)=.ret (false,b9 s aE fx c pl mi))
  {pis:List (List Nat)} {es:List (Str×SV)} {j:Nat} {g1:List (List SO)} (hj:25<=j)
  (hrun:∀ρ,cX (lf ρ 25 pis dW) (E0.S (eJ (k+10)) (b9 s aE fx c pl mi) (cB wd 40 b) [mF,jK])=.br true (.ret (some ⟨.next,jD s es aE fx j,g1,(eB wd (40+wd.n) (b++cI wd)).map some⟩)) .no)
  (sh:List Addr->Sh) (hsh:∀ρ,eV ρ (List.range 25) es=fC (sh ρ).lst)
  (ao:∀ρ aV aS aB h' aU,adr aB=(adr aA).take 25->Now w G aY L (dG wd.n 40 (b++cI wd) []) (dQ {s with eqs:=sh ρ} aE (fx++[Value.ref (ρ.getD j 0)])) aV aS aB h'->(adr aS).Nodup->Hd w aS (gs++g1.zip (pis.map λπ=>π.map λi=>ρ.getD i 0))->Q .next {s0 with heap:=h',toks:=aU}):
  wpAny (model rw1.prog w) A (execs [.If (fQ mZ) [.If (fQ kL) [jA] [] (oQ kL),kP] [mF,jK] (oQ mZ)] ((eJ (k+10)).env L)) Q E s0:=by
 have ac:(eJ (k+10)).cs=none:=rfl
 have hL:=C.c0 ac
 refine wpAny_execs_cons (wpAny_If ((I0 w).Tq _ _ _ _ C (cP hT) n λaI h1 aW x1 n1=>?_))
 simp only[bW,if_false]
 have hlen:25<=(b9 s aE fx c pl mi).length:=by
  show 25<=27
  omega
 have hc:(eB wd (40+wd.n) (b++cI wd)).all (eW 25)=true:=rfl
 refine eT (ih:=E0) (s:={s0 with heap:=h1,toks:=aW}) (I0 w) C ac (loc:=cB wd 40 b) (st:=b9 s aE fx c pl mi) (b:=[mF,jK]) PE n1 ae H (k:=25) (pis:=pis) (ns:=dW) (st1:=jD s es aE fx j) (gs1:=g1) (vs:=eB wd (40+wd.n) (b++cI wd)) hlen hc (λρ=>.br _ rfl (hrun ρ)) λρ xs3 mm3 aK h3 tk3 x3 ea3 n3 nd3 H3=>?_
 rw[uY s (hsh ρ) aE fx hj] at n3
 have n4:=Now.weak n3 (i:=24) (so:=.listB 6 ((fx++[Value.ref (ρ.getD j 0)]).map .lit)) (so':=.listB 5 ((fx++[Value.ref (ρ.getD j 0)]).map .lit)) rfl (λρ a o h=>⟨h.1,by simp;omega⟩)
 have hbs:(b++cI wd).size<=40:=by rw[Array.size_append];unfold cI;rw[Array.size_replicate];exact hb
 have n5:=gU n4 (x:="octets") (m:=40+wd.n) (m':=40) (b:=b++cI wd) rfl hbs
 have eL:jG (fD ρ 25 dW (eB wd (40+wd.n) (b++cI wd))) "octets" (.bytes 40 (b++cI wd))=dG wd.n 40 (b++cI wd) []:=by
  have h1:jG (fD ρ 25 dW (eB wd (40+wd.n) (b++cI wd))) "octets" (.bytes 40 (b++cI wd))=MB (cD ρ (List.range 25) (.obj 4)) (.int wd.n) (cD ρ (List.range 25) (.obj 23)) .none (.bytes 40 (b++cI wd)) (cD ρ (List.range 25) (.obj 24)):=rfl
  rw[h1,b0 (by omega),b0 (by omega),b0 (by omega)]
  rfl
 rw[eL] at n5
 refine wpAny_execs_nil (ao ρ mm3 xs3 aK h3 tk3 ?_ n5 nd3 H3)
 rw[ea3]
 have hl:25<=(adr aA).length:=by
  have:=n.R.len
  simp only[adr,bF]
  rw[this]
  exact hlen
 exact take_getD (x1.trans x3) hl
end
def pH (M:Model) (A:Around) (env:Env) (base aY:Heap) (outer:List Env) (e C:Addr) (nw:dJ) (s':Shared):Prop:=
 ∀(Q':Unit->Shared->Prop) (E':Value->Shared->Prop),(∀h'',Rsd base aY outer e C nw h''->aY.UpToSlots h''->Q' () {s' with heap:=h''})->wpAny M A (leaving env (.ref e)) Q' E' s'
theorem FT {h:Heap} {e C:Addr} (x:∃oe,h.get? e=some oe/\iF C oe):NL h e C:=by
 refine qM x λoe h1 h2 z1=>?_;clear x
 obtain⟨tp,h3⟩:=z1
 exact⟨oe,_,.ref tp,h1,h2,h3,rfl,rfl⟩
section
variable {w:World}
theorem wK (C:Fx w fn A outer aZ base aY L p loose aC mg mb) {s':Shared} {e D:Addr} (n:Now w G aY L loc st mm xs aA s'.heap) (x:∃oe,s'.heap.get? e=some oe/\iF D oe) (e0:aY.get? e=none) (ne:∀q∈xs++aA,q.1≠e) {M:Model}:
  pH M A (fn.fenv L) base aY outer e D (xs++aA) s':=λQ' E' hQ=>
 QR C.B C.hA rfl C.hk n.F n.NX (FT x) e0 ne hQ
theorem FV {g₂:Heap} (C:Fx w fn A outer aZ base aY L p loose aC mg mb) {nw:dJ} {s':Shared} {e D:Addr} (F:Fr aY L.a g₂ mm) (R:Rsd base g₂ (fn.fenv L::outer) e D nw s'.heap) (hsm:g₂.UpToSlots s'.heap) {M:Model}:
  pH M A (fn.fenv L) base aY outer e D nw s':=λQ' E' hQ=>
 QS C.B C.hA rfl F R hsm hQ
abbrev OL (k:Nat):Fn:=dY r949_3 k
noncomputable def rA:Loc:=[("at",.none),("affine",.obj 25),("self",.obj 4)]
theorem dD:∃W:Expr×Expr×List Stmt×Pos×Pos×Stmt×Pos×Expr×Expr×Pos×Pos,r949_3.body=[.If W.1 W.2.2.1 [] W.2.2.2.1,.If W.2.1 [.Raise (some (.Call (.Name "SymbolError" W.2.2.2.2.2.2.1) [W.2.2.2.2.2.2.2.1,W.2.2.2.2.2.2.2.2.1] [] W.2.2.2.2.2.2.2.2.2.1)) none W.2.2.2.2.2.2.2.2.2.2] [] W.2.2.2.2.1,W.2.2.2.2.2.1]/\
  (∀(k:Nat) (s:LS) (aE fx:List Value) (c:Int),E0.T (OL k) (b9 s aE fx c "" cC) rA W.1=.ret (false,b9 s aE fx c "" cC))/\
  (∀(k:Nat) (s:LS) (aE fx:List Value) (c:Int),E0.T (OL k) (b9 s aE fx c "" cC) rA W.2.1=.ret (true,b9 s aE fx c "" cC))/\
  (∀(k:Nat) (st:List SO),E0.E (OL k) st rA (.Name "SymbolError" W.2.2.2.2.2.2.1)=.ret (.lit (.ref 83),st))/\
  (∀(k:Nat) (st:List SO),oH E0 (OL k) st rA [W.2.2.2.2.2.2.2.1,W.2.2.2.2.2.2.2.2.1]=.ret ([.str "a name that is only taken away",.none],st)):=
 ⟨(_,_,_,_,_,_,_,_,_,_,_),rfl,λk s aE fx c=>by kernel_rfl,λk s aE fx c=>by kernel_rfl,λk st=>by kernel_rfl,λk st=>by kernel_rfl⟩
def OJ:Expr:=(az dD).1
def OK:Expr:=(az dD).2.1
def ZB:List Stmt:=(az dD).2.2.1
def ZC:Pos:=(az dD).2.2.2.1
def ZD:Pos:=(az dD).2.2.2.2.1
def aC7:Stmt:=(az dD).2.2.2.2.2.1
def OI:Pos:=(az dD).2.2.2.2.2.2.1
def Y9:Expr:=(az dD).2.2.2.2.2.2.2.1
def ZA:Expr:=(az dD).2.2.2.2.2.2.2.2.1
def MO:Pos:=(az dD).2.2.2.2.2.2.2.2.2.1
def RR:Pos:=(az dD).2.2.2.2.2.2.2.2.2.2
theorem HM:r949_3.body=[.If OJ ZB [] ZC,.If OK [.Raise (some (.Call (.Name "SymbolError" OI) [Y9,ZA] [] MO)) none RR] [] ZD,aC7]/\
  (∀(k:Nat) (s:LS) (aE fx:List Value) (c:Int),E0.T (OL k) (b9 s aE fx c "" cC) rA OJ=.ret (false,b9 s aE fx c "" cC))/\
  (∀(k:Nat) (s:LS) (aE fx:List Value) (c:Int),E0.T (OL k) (b9 s aE fx c "" cC) rA OK=.ret (true,b9 s aE fx c "" cC))/\
  (∀(k:Nat) (st:List SO),E0.E (OL k) st rA (.Name "SymbolError" OI)=.ret (.lit (.ref 83),st))/\
  (∀(k:Nat) (st:List SO),oH E0 (OL k) st rA [Y9,ZA]=.ret ([.str "a name that is only taken away",.none],st)):=Classical.choose_spec dD
theorem cW:∃W:Pos×Pos×Expr×Expr×Expr×Expr×Pos×Expr×Expr×Pos×Pos×Pos×Pos×Pos×Pos,mF=.Expr (.Call (.Attribute (.Name "fixups" W.1) "append" W.2.2.2.2.2.2.2.2.2.2.2.2.2.1) [.Call (.Name "Fixup" W.2.1) [W.2.2.1,W.2.2.2.1,.Call (.Attribute (.Name "self" W.2.2.2.2.2.2.1) "open_name" W.2.2.2.2.2.2.2.2.2.2.1) [W.2.2.2.2.2.2.2.1,W.2.2.2.2.2.2.2.2.1] [] W.2.2.2.2.2.2.2.2.2.1,W.2.2.2.2.1,W.2.2.2.2.2.1] [] W.2.2.2.2.2.2.2.2.2.2.2.1] [] W.2.2.2.2.2.2.2.2.2.2.2.2.1) W.2.2.2.2.2.2.2.2.2.2.2.2.2.2/\
  fN 1 W.2.2.2.2.2.2.2.2.2.2.2.2.2.1 W.2.2.2.2.2.2.2.2.2.2.2.2.1=true/\fN 2 W.2.2.2.2.2.2.2.2.2.2.1 W.2.2.2.2.2.2.2.2.2.1=true/\
  (∀env,starEach [W.2.2.1,W.2.2.2.1,.Call (.Attribute (.Name "self" W.2.2.2.2.2.2.1) "open_name" W.2.2.2.2.2.2.2.2.2.2.1) [W.2.2.2.2.2.2.2.1,W.2.2.2.2.2.2.2.2.1] [] W.2.2.2.2.2.2.2.2.2.1,W.2.2.2.2.1,W.2.2.2.2.2.1] env=(false,eval W.2.2.1 env)::starEach [W.2.2.2.1,.Call (.Attribute (.Name "self" W.2.2.2.2.2.2.1) "open_name" W.2.2.2.2.2.2.2.2.2.2.1) [W.2.2.2.2.2.2.2.1,W.2.2.2.2.2.2.2.2.1] [] W.2.2.2.2.2.2.2.2.2.1,W.2.2.2.2.1,W.2.2.2.2.2.1] env)/\(∀env,starEach [W.2.2.2.1,.Call (.Attribute (.Name "self" W.2.2.2.2.2.2.1) "open_name" W.2.2.2.2.2.2.2.2.2.2.1) [W.2.2.2.2.2.2.2.1,W.2.2.2.2.2.2.2.2.1] [] W.2.2.2.2.2.2.2.2.2.1,W.2.2.2.2.1,W.2.2.2.2.2.1] env=(false,eval W.2.2.2.1 env)::starEach [(.Call (.Attribute (.Name "self" W.2.2.2.2.2.2.1) "open_name" W.2.2.2.2.2.2.2.2.2.2.1) [W.2.2.2.2.2.2.2.1,W.2.2.2.2.2.2.2.2.1] [] W.2.2.2.2.2.2.2.2.2.1:Expr),W.2.2.2.2.1,W.2.2.2.2.2.1] env)/\
  (∀env,starEach [(.Call (.Attribute (.Name "self" W.2.2.2.2.2.2.1) "open_name" W.2.2.2.2.2.2.2.2.2.2.1) [W.2.2.2.2.2.2.2.1,W.2.2.2.2.2.2.2.2.1] [] W.2.2.2.2.2.2.2.2.2.1:Expr),W.2.2.2.2.1,W.2.2.2.2.2.1] env=(false,eval (.Call (.Attribute (.Name "self" W.2.2.2.2.2.2.1) "open_name" W.2.2.2.2.2.2.2.2.2.2.1) [W.2.2.2.2.2.2.2.1,W.2.2.2.2.2.2.2.2.1] [] W.2.2.2.2.2.2.2.2.2.1) env)::starEach [W.2.2.2.2.1,W.2.2.2.2.2.1] env)/\(∀(env:Env) (ppp:Pos),(backTo ppp (starEach [W.2.2.2.1,.Call (.Attribute (.Name "self" W.2.2.2.2.2.2.1) "open_name" W.2.2.2.2.2.2.2.2.2.2.1) [W.2.2.2.2.2.2.2.1,W.2.2.2.2.2.2.2.2.1] [] W.2.2.2.2.2.2.2.2.2.1,W.2.2.2.2.1,W.2.2.2.2.2.1] env)).any (·.1)=false)/\
  (∀(k:Nat) (st:List SO) (wd:Wd) (o:Array UInt8),E0.E (eJ (k+10)) st (cB wd 40 o) (.Name "fixups" W.1)=.ret (.obj 24,st))/\
  (∀(k:Nat) (st:List SO) (wd:Wd) (o:Array UInt8),E0.E (eJ (k+10)) st (cB wd 40 o) (.Name "Fixup" W.2.1)=.ret (.lit (.ref 175),st))/\
  (∀(k:Nat) (st:List SO) (wd:Wd) (o:Array UInt8),E0.E (eJ (k+10)) st (cB wd 40 o) W.2.2.1=.ret (.int o.size,st))/\
  (∀(k:Nat) (st:List SO) (wd:Wd) (o:Array UInt8),E0.E (eJ (k+10)) st (cB wd 40 o) W.2.2.2.1=.ret (.int wd.n,st))/\
  (∀(k:Nat) (st:List SO) (wd:Wd) (o:Array UInt8),E0.E (eJ (k+10)) st (cB wd 40 o) (.Name "self" W.2.2.2.2.2.2.1)=.ret (.obj 4,st))/\
  (∀(k:Nat) (st:List SO) (wd:Wd) (o:Array UInt8),oH E0 (eJ (k+10)) st (cB wd 40 o) [W.2.2.2.2.2.2.2.1,W.2.2.2.2.2.2.2.2.1]=.ret ([.obj 25,.none],st)):=
 ⟨(_,_,_,_,_,_,_,_,_,_,_,_,_,_,_),rfl,by rfl,by rfl,λ_=>rfl,λ_=>rfl,λ_=>rfl,λ_ _=>rfl,λk st wd o=>by kernel_rfl,λk st wd o=>by kernel_rfl,λk st wd o=>by kernel_rfl,λk st wd o=>by kernel_rfl,λk st wd o=>by kernel_rfl,λk st wd o=>by kernel_rfl⟩
def N4:Pos:=(az cW).1
def NZ:Pos:=(az cW).2.1
def zA:Expr:=(az cW).2.2.1
def qD:Expr:=(az cW).2.2.2.1
def nJ:Expr:=(az cW).2.2.2.2.1
def nK:Expr:=(az cW).2.2.2.2.2.1
def mE:Pos:=(az cW).2.2.2.2.2.2.1
def mC:Expr:=(az cW).2.2.2.2.2.2.2.1
def mD:Expr:=(az cW).2.2.2.2.2.2.2.2.1
def g5:Pos:=(az cW).2.2.2.2.2.2.2.2.2.1
def i9:Pos:=(az cW).2.2.2.2.2.2.2.2.2.2.1
def Q3:Pos:=(az cW).2.2.2.2.2.2.2.2.2.2.2.1
def G0:Pos:=(az cW).2.2.2.2.2.2.2.2.2.2.2.2.1
def GZ:Pos:=(az cW).2.2.2.2.2.2.2.2.2.2.2.2.2.1
def Q4:Pos:=(az cW).2.2.2.2.2.2.2.2.2.2.2.2.2.2
theorem MH:mF=.Expr (.Call (.Attribute (.Name "fixups" N4) "append" GZ) [.Call (.Name "Fixup" NZ) [zA,qD,.Call (.Attribute (.Name "self" mE) "open_name" i9) [mC,mD] [] g5,nJ,nK] [] Q3] [] G0) Q4/\
  fN 1 GZ G0=true/\fN 2 i9 g5=true/\
  (∀env,starEach [zA,qD,.Call (.Attribute (.Name "self" mE) "open_name" i9) [mC,mD] [] g5,nJ,nK] env=(false,eval zA env)::starEach [qD,.Call (.Attribute (.Name "self" mE) "open_name" i9) [mC,mD] [] g5,nJ,nK] env)/\(∀env,starEach [qD,.Call (.Attribute (.Name "self" mE) "open_name" i9) [mC,mD] [] g5,nJ,nK] env=(false,eval qD env)::starEach [(.Call (.Attribute (.Name "self" mE) "open_name" i9) [mC,mD] [] g5:Expr),nJ,nK] env)/\
  (∀env,starEach [(.Call (.Attribute (.Name "self" mE) "open_name" i9) [mC,mD] [] g5:Expr),nJ,nK] env=(false,eval (.Call (.Attribute (.Name "self" mE) "open_name" i9) [mC,mD] [] g5) env)::starEach [nJ,nK] env)/\(∀(env:Env) (ppp:Pos),(backTo ppp (starEach [qD,.Call (.Attribute (.Name "self" mE) "open_name" i9) [mC,mD] [] g5,nJ,nK] env)).any (·.1)=false)/\
  (∀(k:Nat) (st:List SO) (wd:Wd) (o:Array UInt8),E0.E (eJ (k+10)) st (cB wd 40 o) (.Name "fixups" N4)=.ret (.obj 24,st))/\
  (∀(k:Nat) (st:List SO) (wd:Wd) (o:Array UInt8),E0.E (eJ (k+10)) st (cB wd 40 o) (.Name "Fixup" NZ)=.ret (.lit (.ref 175),st))/\
  (∀(k:Nat) (st:List SO) (wd:Wd) (o:Array UInt8),E0.E (eJ (k+10)) st (cB wd 40 o) zA=.ret (.int o.size,st))/\
  (∀(k:Nat) (st:List SO) (wd:Wd) (o:Array UInt8),E0.E (eJ (k+10)) st (cB wd 40 o) qD=.ret (.int wd.n,st))/\
  (∀(k:Nat) (st:List SO) (wd:Wd) (o:Array UInt8),E0.E (eJ (k+10)) st (cB wd 40 o) (.Name "self" mE)=.ret (.obj 4,st))/\
  (∀(k:Nat) (st:List SO) (wd:Wd) (o:Array UInt8),oH E0 (eJ (k+10)) st (cB wd 40 o) [mC,mD]=.ret ([.obj 25,.none],st)):=Classical.choose_spec cW
theorem gM1 (st:List SO) (s:LS) (aE fx:List Value) (c:Int):wL tb (b9 s aE fx c "" cC) (.obj 24) "append"=some (.lit (.builtin "list.append"),[.obj 24]):=by kernel_rfl
theorem gM2 (s:LS) (aE fx:List Value) (c:Int):wL tb (b9 s aE fx c "" cC) (.obj 4) "open_name"=some (.lit (.ref 949),[.obj 4]):=by kernel_rfl
theorem LY (w:World):keepIn (K w.params) (.ref 175)=true:=by kernel_rfl
theorem L2 (w:World):keepIn (K w.params) (.ref 949)=true:=by kernel_rfl
theorem HK (C:Fx w (eJ (k+10)) A outer aZ base aY L p loose aC mg mb)
  {s0:Shared} {s:LS} {aE fx:List Value} {wd:Wd} {b:Array UInt8} {c:Int}
  (n:Now w G aY L (cB wd 40 b) (b9 s aE fx c "" cC) mm X aA s0.heap)
  (ap:∀h' aU aB e,Ext (adr aA) (adr aB)->Rep w G (b9 s aE fx c "" cC) aB->(∀p∈X,∀q∈aB,p.1≠q.1)->pH (model rw1.prog w) A ((eJ (k+10)).fenv L) base aY outer e 83 (X++aB) {s0 with heap:=h',toks:=aU}->E (.ref e) {s0 with heap:=h',toks:=aU}):
  wpAny (model rw1.prog w) A (execs [.If (fQ mZ) [.If (fQ kL) [jA] [] (oQ kL),kP] [mF,jK] (oQ mZ)] ((eJ (k+10)).env L)) Q E s0:=by
 have ac:(eJ (k+10)).cs=none:=rfl
 have hL:=C.c0 ac
 refine wpAny_execs_cons (wpAny_If ((I0 w).Tq _ _ _ _ C (cP (rT5 s aE fx wd c 40 b k)) n λaI h1 aW x1 n1=>?_))
 simp only[bW,if_false]
 refine ZP MH λhS o1 o2 st1 st2 st3 stp e1 e2 e3 e4 e5 e6=>?_
 have any6:=fM (pos:=g5) (env:=(eJ (k+10)).env L) (cP (e6 k (b9 s aE fx c "" cC) wd b))
 obtain⟨ne6,_⟩:=fB (cP (e6 k (b9 s aE fx c "" cC) wd b))
 rw[hS]
 refine wpAny_execs_cons (wpAny_Expr_any (MethodCall_ (pl:=_) ((I0 w).Eq _ _ _ _ C (cP (e1 k _ wd b)) n1 λu2 aJ h2 aX x2 n2 hv=>?_) (rW (by rfl) o1 (iP rfl _ _))) (l8 ac C.hk) rfl)
 refine lZ (K9 w) (gM1 [] s aE fx c) C.X n2 hv λuf us tk3 hf hus=>?_
 obtain rfl:uf=.builtin "list.append":=hf
 refine callWith_method1 (spliced_more (Call_ ((I0 w).Eq _ _ _ _ C (cP (e2 k _ wd b)) n2 λu4 aL h4 tk4 x4 n4 hv4=>?_))) rfl rfl
 obtain rfl:u4=.ref 175:=hv4
 refine callWith_K C.X (LY w) (spliced_more ((I0 w).Eq _ _ _ _ C (cP (e3 k _ wd b)) n4 λu5 aM h5 tk5 x5 n5 hv5=>?_) (st1 _)) (st1 _) (stp _ _)
 refine spliced_more ((I0 w).Eq _ _ _ _ C (cP (e4 k _ wd b)) n5 λu6 aN h6 tk6 x6 n6 hv6=>?_) (st2 _)
 refine spliced_more (MethodCall_ (pl:=_) ((I0 w).E _ _ _ _ C (cP (e5 k _ wd b)) n6 λv st7 u7 aO h7 tk7 af x7 n7 hv7=>?_) (rW ?_ o2 (iP rfl _ _))) (st3 _)
 ·first|exact b5 af|(refine pI af λe1 e2=>?_;clear af;(replace hv7:=e1▸hv7;replace n7:=e2▸n7))
  refine lZ (K9 w) (gM2 s aE fx c) C.X n7 hv7 λuf us tk8 hf hus=>?_
  obtain rfl:uf=.ref 949:=hf
  refine callWith_K C.X (L2 w) (R.sA (I0 w) C (cP (e6 k _ wd b)) n7 λvs vX us9 news9 h9 tk9 af x9 n9 hvs=>⟨C.X.keeps n9.F.keep,?_⟩) (cR ne6) ?_
  ·first|exact b5 af|(refine pI af λe1 e2=>?_;clear af;(rw[e1] at hvs;rw[e2] at n9))
   have hd:A.depth+4*(k+10)<recursionLimit:=C.hd
   have hu:A.units+20*(k+10)+100<cLine:=C.hu
   refine wpAny_call (fT (k:=k+5) rfl (r7 w) C.B C.X C.T C.hA rfl C.hk C.hh (by omega) (by omega) (s:={s0 with heap:=h9,toks:=tk9}) n9 (svs:=[.obj 4]++[.obj 25,.none]) ((hus.ext x9).app hvs) rfl ?_)
   intro g L' h10 tk10 aV news10 x10 FG C' n10 Q' E' hQ PE hE
   have n10:Now w G g L' rA (b9 s aE fx c "" cC) aV X news10 h10:=by
    have q1:m8 r949_3 ([.obj 4]++[.obj 25,.none]) (b9 s aE fx c "" cC).length=rA:=by kernel_rfl
    have q2:b9 s aE fx c "" cC++j3 r949_3=b9 s aE fx c "" cC:=by
     rw[show j3 r949_3=[] from by kernel_rfl,bQ]
    rw[q1,q2] at n10
    exact n10
   refine q05 HM λhB f1 f2 f3 f4=>?_
   rw[hB]
   refine wpAny_execs_cons (wpAny_If ((I0 w).Tq _ _ _ _ C' (cP (f1 (k+5) s aE fx c)) n10 λnews11 h11 tk11 x11 n11=>?_))
   simp only[bW,if_false]
   refine wpAny_execs_nil ?_
   refine wpAny_execs_cons (wpAny_If ((I0 w).Tq _ _ _ _ C' (cP (f2 (k+5) s aE fx c)) n11 λnews12 h12 tk12 x12 n12=>?_))
   simp only[if_true]
   refine wpAny_execs_cons (m7 C' rfl (XG w) (k:=k+4) rfl n12 (f3 _ _) (f4 _ _) λh13 tk13 news13 e x13 n13 he e0 ne=>?_)
   refine hE _ _ (wK C' (s':={s0 with heap:=h13,toks:=tk13}) n13 he e0 ne _ _ λh14 R14 hsm14=>?_)
   exact ap h14 tk13 news13 e ((((((((((x1.trans x2).trans x4).trans x5).trans x6).trans x7).trans x9).trans x10).trans x11).trans x12).trans x13) n13.R n13.off (FV (s':={s0 with heap:=h14,toks:=tk13}) C FG R14 hsm14)
  ·rw[cR ne6,bn] at any6
   simp only[Bool.false_or] at any6
   rw[<-any6]
   exact iZ _ _
 ·exact fM (pos:=g5) (cP (e6 k (b9 s aE fx c "" cC) wd b))
end
theorem xB:∃pos,iC=.For MK HB iS [] pos:=⟨_,rfl⟩
theorem HC (k:Nat) (st:List SO) (wd:Int) (m:Nat) (b:Array UInt8) (l:Loc):E0.E (eJ k) st (dG wd m b l) HB=.ret (.obj 23,st):=by kernel_rfl
theorem HD:d5 HB=true:=by kernel_rfl
def RF (w:World) (s:LS) (aE:List Value) (gs:Sh->List Gr) (ρ0:List Addr) (nw:dJ):Prop:=∃G st xs aA sh,nw=xs++aA/\Rep w G st aA/\(∀p∈xs,∀q∈aA,p.1≠q.1)/\(adr xs).Nodup/\st.take 23=({s with eqs:=sh}:LS).sT++[.list (aE.map .lit)]/\(adr aA).take 23=ρ0.take 23/\Hd w xs (gs sh)/\ShGe s.eqs sh
theorem Sh.addF_ge (l:List Addr) (sh:Sh):ShGe sh (sh.addF l)/\(sh.addF l).hasF=true:=by cases sh<;>simp[ShGe,Sh.addF,Sh.hasF,Sh.hasR]
theorem Sh.addR_ge (l:List Addr) (sh:Sh):ShGe sh (sh.addR l)/\(sh.addR l).hasR=true:=by cases sh<;>simp[ShGe,Sh.addR,Sh.hasF,Sh.hasR]
section
variable {w:World}
theorem Sh.addF_grs {l:List Addr} {a b:List Gr}:∀{sh:Sh},Hd w xs (a++(sh.grs++b)++[(eI 0 cV cC,l)])->Hd w xs (a++((sh.addF l).grs++b))
 | .n,H=>Hd.perm (by simp[Sh.grs,Sh.addF]<;>exact bJ _ (bM (l₂:=[_]))) H
 | .f x,H=>by
  have H2:Hd w xs ([(eI 0 cV cC,x)]++(a++b++[(eI 0 cV cC,l)])):=Hd.perm (by simp[Sh.grs]<;>exact bt) H
  exact Hd.perm (by simp[Sh.grs,Sh.addF]<;>exact bJ _ (bM (l₂:=[_]))) (Hd.right H2)
 | .r x,H=>Hd.perm (by simp[Sh.grs,Sh.addF]<;>exact bJ _ (List.Perm.cons _ (bM (l₂:=[_])))) H
 | .fr x y,H=>by
  have H2:Hd w xs ([(eI 0 cV cC,x)]++(a++((eI 0 cC cV,y)::b)++[(eI 0 cV cC,l)])):=Hd.perm (by simp[Sh.grs]<;>exact bt) H
  exact Hd.perm (by simp[Sh.grs,Sh.addF]<;>exact bJ _ (bM (l₁:=_::b) (l₂:=[_]))) (Hd.right H2)
 | .rf y x,H=>by
  have H2:Hd w xs ([(eI 0 cV cC,x)]++(a++((eI 0 cC cV,y)::b)++[(eI 0 cV cC,l)])):=Hd.perm (by simp[Sh.grs]<;>exact(bJ _ (List.Perm.swap _ _ _)).trans bt) H
  exact Hd.perm (by simp[Sh.grs,Sh.addF]<;>exact bJ _ (List.Perm.cons _ (bM (l₂:=[_])))) (Hd.right H2)
theorem Sh.addR_grs {l:List Addr} {a b:List Gr}:∀{sh:Sh},Hd w xs (a++(sh.grs++b)++[(eI 0 cC cV,l)])->Hd w xs (a++((sh.addR l).grs++b))
 | .n,H=>Hd.perm (by simp[Sh.grs,Sh.addR]<;>exact bJ _ (bM (l₂:=[_]))) H
 | .r x,H=>by
  have H2:Hd w xs ([(eI 0 cC cV,x)]++(a++b++[(eI 0 cC cV,l)])):=Hd.perm (by simp[Sh.grs]<;>exact bt) H
  exact Hd.perm (by simp[Sh.grs,Sh.addR]<;>exact bJ _ (bM (l₂:=[_]))) (Hd.right H2)
 | .f x,H=>Hd.perm (by simp[Sh.grs,Sh.addR]<;>exact bJ _ (List.Perm.cons _ (bM (l₂:=[_])))) H
 | .rf x y,H=>by
  have H2:Hd w xs ([(eI 0 cC cV,x)]++(a++((eI 0 cV cC,y)::b)++[(eI 0 cC cV,l)])):=Hd.perm (by simp[Sh.grs]<;>exact bt) H
  exact Hd.perm (by simp[Sh.grs,Sh.addR]<;>exact bJ _ (bM (l₁:=_::b) (l₂:=[_]))) (Hd.right H2)
 | .fr y x,H=>by
  have H2:Hd w xs ([(eI 0 cC cV,x)]++(a++((eI 0 cV cC,y)::b)++[(eI 0 cC cV,l)])):=Hd.perm (by simp[Sh.grs]<;>exact(bJ _ (List.Perm.swap _ _ _)).trans bt) H
  exact Hd.perm (by simp[Sh.grs,Sh.addR]<;>exact bJ _ (List.Perm.cons _ (bM (l₂:=[_])))) (Hd.right H2)
end
section
variable {w:World}
def mV (aD:List (PS×List Addr)) (oth:List Gr) (sh:Sh):List Gr:=aD.map pg++(sh.grs++oth)
def NJ (w:World) (wd:Wd) (s:LS) (aD:List (PS×List Addr)) (oth:List Gr) (rem:List Value) (loc:Loc) (st:List SO) (xs:dJ):Prop:=∃(done todo:List (PS×List Addr)) (b:Array UInt8) (fs:List (Fld×List Addr)) (sh:Sh),
 aD=done++todo/\rem=todo.map cZ/\gM wd #[] [] (done.map (·.1))=.ok (b,fs.map (·.1))/\loc=dG wd.n 40 b []/\st=dQ {s with eqs:=sh} (aD.map cF) (fs.map λf=>cS f.2)/\
 Hd w xs (aD.map pg++(fs.map (fg wd)++(sh.grs++oth)))/\ShGe s.eqs sh/\∀q∈done.map (·.1),needs sh q
theorem OP (a b c d:List Gr) (x f:Gr):((a++x::(b++(c++d)))++[f]).Perm (a++x::(b++([f]++(c++d)))):=by
 simp only[bB,bk,List.nil_append]
 refine bJ _ (List.Perm.cons _ (bJ _ ?_))
 rw[<-bB]
 exact bM (l₂:=[_])
theorem OQ (a b c d:List Gr) (x f g:Gr):((a++x::(b++(c++d)))++[f,g]).Perm ((a++x::(b++[f]))++(c++d)++[g]):=by
 simp only[bB,bk,List.nil_append]
 refine bJ _ (List.Perm.cons _ (bJ _ ?_))
 rw[<-bB,<-bB]
 exact bt
theorem OR (a b c d:List Gr) (x f:Gr):(a++x::(b++[f]))++(c++d)=a++x::(b++([f]++(c++d))):=by
 simp only[bB,bk,List.nil_append]
theorem BF (C:Fx w (eJ (k+10)) A outer aZ base aY L p loose aC mg mb)
  {s0:Shared} {s:LS} {aE fx:List Value} {wd:Wd} {b:Array UInt8} {q:PS} {as:List Addr} {gsA gsB oth:List Gr} {fl:List Fld} (PE:PassesOwn (model rw1.prog w) A ((eJ (k+10)).env L) E)
  (n:Now w G aY L (dG wd.n 40 b []) (dQ s aE fx) mm X aA s0.heap) (ae:(adr X).Nodup) (H:Hd w X (gsA++(q.grp,as)::(gsB++(s.eqs.grs++oth)))) (hb:b.size+wd.n<=40) (av:fx.length+1<=5) (hv:v=.ref (as.getD 1 0))
  (ao:∀b' (fn:List (Fld×List Addr)) sh' aV aS aB h' aU,fR wd b fl q=.ok (b',fl++fn.map (·.1))->adr aB=adr aA->Now w G aY L (dG wd.n 40 b' []) (dQ {s with eqs:=sh'} aE (fx++fn.map λf=>cS f.2)) aV aS aB h'->(adr aS).Nodup->
   Hd w aS (gsA++(q.grp,as)::(gsB++(fn.map (fg wd)++(sh'.grs++oth))))->ShGe s.eqs sh'->needs sh' q->Q .next {s0 with heap:=h',toks:=aU})
  (ap:∀er aT aS aB e h' aU,fR wd b fl q=.error er->Rep w G aT aB->(∀p∈aS,∀q∈aB,p.1≠q.1)->(adr aS).Nodup->aT.take 23=(dQ s aE fx).take 23->Ext (adr aA) (adr aB)->Hd w aS (gsA++(q.grp,as)::(gsB++(s.eqs.grs++oth)))->
   pH (model rw1.prog w) A ((eJ (k+10)).fenv L) base aY outer e er.cls (aS++aB) {s0 with heap:=h',toks:=aU}->E (.ref e) {s0 with heap:=h',toks:=aU}):
  wpAny (model rw1.prog w) A (assign MK ((eJ (k+10)).fenv L) v) (λ_ s₃=>wpAny (model rw1.prog w) A (execs iS ((eJ (k+10)).fenv L)) Q E s₃) E s0:=by
 have hnl:aA.length=25:=by rw[n.R.len,fU]
 have hal:(adr aA).length=25:=by simp[adr,hnl]
 refine xC C PE n ae H hv λaw xs1 aI h1 aW g e1 n1 nd1 H1=>?_
 have x1:Ext (adr aA) (adr aI):=⟨_,e1⟩
 have t25:(adr aI).take 25=adr aA:=by rw[e1,<-hal,List.take_left]
 have number:∀c:Int,q.worth=c->q.plus=""->q.minus=""->(∀sh,needs sh q)->(fR wd b fl q=if iM wd c then .ok (b++cQ wd c,fl) else .error .enc)->wpAny (model rw1.prog w) A (execs [.If (fQ mZ) [.If (fQ kL) [jA] [] (oQ kL),kP] [mF,jK] (oQ mZ)] ((eJ (k+10)).env L)) Q E {s0 with heap:=h1,toks:=aW}:=by
  intro c hc hp hm hn hs
  rw[hc,hp,hm] at n1
  refine HL (s0:={s0 with heap:=h1,toks:=aW}) C PE n1 nd1 H1 hb (λhf aQ au aJ h2 aX e2 n2 nd2 H2=>?_) λhf h2 aX aJ e x2 n2 he e0 ne=>?_
  ·refine ao (b++cQ wd c) [] s.eqs aQ au aJ h2 aX (by rw[hs,if_pos hf,bf,bQ]) (e2.trans t25) ?_ nd2 H2 .rfl' (hn _)
   rw[bf,bQ]
   exact n2
  ·exact ap .enc _ xs1 aJ e h2 aX (by rw[hs,hf];rfl) n2.R n2.off nd1 rfl (x1.trans x2) H1 (wK (s':={s0 with heap:=h2,toks:=aX}) C n2 he e0 ne)
 have app:∀(c:Int),q.worth=c->q.plus=cV->q.minus=""->(∀sh,needs sh q)->fR wd b fl q=.ok (b++cI wd,fl++[⟨b.size,cV,c⟩])->wpAny (model rw1.prog w) A (execs [.If (fQ mZ) [.If (fQ kL) [jA] [] (oQ kL),kP] [mF,jK] (oQ mZ)] ((eJ (k+10)).env L)) Q E {s0 with heap:=h1,toks:=aW}:=by
  intro c hc hp hm hn hs
  rw[hc,hp,hm] at n1
  refine qJ (s0:={s0 with heap:=h1,toks:=aW}) C PE n1 nd1 H1 hb av (rT2 s aE fx wd c 40 b k) (j:=28) (by omega) (λρ=>rA1 ρ s aE fx wd c b k) (λ_=>s.eqs) (λρ=>mM _) λρ aQ au aJ h2 aX e2 n2 nd2 H2=>?_
  refine ao (b++cI wd) [(⟨b.size,cV,c⟩,[ρ.getD 28 0,ρ.getD 27 0])] s.eqs aQ au aJ h2 aX hs (e2.trans t25) n2 nd2 (Hd.perm ?_ H2) .rfl' (hn _)
  exact OP _ _ _ _ _ _
 refine q.el (λc e=>number c (congrArg PS.worth e) (congrArg PS.plus e) (congrArg PS.minus e) (λ_=>by rw[e];trivial) (by rw[e];rfl)) (λc e=>number c (congrArg PS.worth e) (congrArg PS.plus e) (congrArg PS.minus e) (λ_=>by rw[e];trivial) (by rw[e];rfl)) (λc e=>app c (congrArg PS.worth e) (congrArg PS.plus e) (congrArg PS.minus e) (λ_=>by rw[e];trivial) (by rw[e];rfl)) (λc e=>app (7-c) (congrArg PS.worth e) (congrArg PS.plus e) (congrArg PS.minus e) (λ_=>by rw[e];trivial) (by rw[e];rfl)) (λc e0=>?_) (λe=>?_) λe=>?_
 ·rw[e0] at n1
  refine HK (s0:={s0 with heap:=h1,toks:=aW}) C n1 λh2 aX aJ e x2 R2 off2 fl2=>?_
  exact ap .sym _ xs1 aJ e h2 aX (by rw[e0];rfl) R2 off2 nd1 rfl (x1.trans x2) H1 fl2
 ·clear number app
  subst e
  refine qJ (s0:={s0 with heap:=h1,toks:=aW}) C PE n1 nd1 H1 hb av (rT3 s aE fx wd 0 40 b k) (j:=30) (by omega) (λρ=>rA2 ρ s s.eqs aE fx wd 0 b k) (λρ=>s.eqs.addF [ρ.getD 28 0,ρ.getD 27 0]) (λρ=>Sh.putF_sel (by omega) _ _ rfl) λρ aQ au aJ h2 aX e2 n2 nd2 H2=>?_
  refine ao (b++cI wd) [(⟨b.size,kI,0⟩,[ρ.getD 30 0,ρ.getD 29 0])] (s.eqs.addF [ρ.getD 28 0,ρ.getD 27 0]) aQ au aJ h2 aX rfl (e2.trans t25) n2 nd2 ?_ (Sh.addF_ge _ _).1 (Sh.addF_ge _ _).2
  have H3:Hd w au ((gsA++(PS.dist.grp,as)::(gsB++[(AW b.size wd.n kI 0,[ρ.getD 30 0,ρ.getD 29 0])]))++(s.eqs.grs++oth)++[(eI 0 cV cC,[ρ.getD 28 0,ρ.getD 27 0])]):=by
   refine Hd.perm ?_ H2
   exact OQ _ _ _ _ _ _ _
  have H4:=Sh.addF_grs H3
  rw[OR] at H4
  exact H4
 ·clear number app
  subst e
  refine qJ (s0:={s0 with heap:=h1,toks:=aW}) C PE n1 nd1 H1 hb av (rT4 s aE fx wd 14 40 b k) (j:=30) (by omega) (λρ=>rA3 ρ s s.eqs aE fx wd 14 b k) (λρ=>s.eqs.addR [ρ.getD 28 0,ρ.getD 27 0]) (λρ=>Sh.putR_sel (by omega) _ _ rfl) λρ aQ au aJ h2 aX e2 n2 nd2 H2=>?_
  refine ao (b++cI wd) [(⟨b.size,kJ,14⟩,[ρ.getD 30 0,ρ.getD 29 0])] (s.eqs.addR [ρ.getD 28 0,ρ.getD 27 0]) aQ au aJ h2 aX rfl (e2.trans t25) n2 nd2 ?_ (Sh.addR_ge _ _).1 (Sh.addR_ge _ _).2
  have H3:Hd w au ((gsA++(PS.way.grp,as)::(gsB++[(AW b.size wd.n kJ 14,[ρ.getD 30 0,ρ.getD 29 0])]))++(s.eqs.grs++oth)++[(eI 0 cC cV,[ρ.getD 28 0,ρ.getD 27 0])]):=by
   refine Hd.perm ?_ H2
   exact OQ _ _ _ _ _ _ _
  have H4:=Sh.addR_grs H3
  rw[OR] at H4
  exact H4
end
theorem vG {wd:Wd} {q:PS} {b b':Array UInt8} {fs fs':List Fld} {er:Err} {l r:List PS} (h:gM wd b fs l=.ok (b',fs')) (e:fR wd b' fs' q=.error er):gM wd b fs (l++q::r)=.error er:=by
 rw[qP,h]
 show gM wd b' fs' (q::r)=_
 unfold gM
 rw[e]
theorem r8 {wd:Wd} {q:PS} {b b' b2:Array UInt8} {fs fs' fs2:List Fld} {l:List PS} (h:gM wd b fs l=.ok (b',fs')) (e:fR wd b' fs' q=.ok (b2,fs2)):gM wd b fs (l++[q])=.ok (b2,fs2):=by
 rw[qP,h]
 show gM wd b' fs' [q]=_
 unfold gM
 rw[e]
 rfl
theorem nO (a b c:List Gr):(a++(b++c)).Perm (b++(a++c)):=by
 rw[<-bB,<-bB]
 exact List.Perm.append_right _ bM
def dZ (s:LS) (aE aG fx:List Value):List SO:=s.sT++[.list (aE.map .lit),.list (aG.map .lit),.listB 5 (fx.map .lit)]
section
variable {w:World}
theorem BE (C:Fx w (eJ (k+10)) A outer aZ base aY L p loose aC mg mb)
  {s0:Shared} {s:LS} {wd:Wd} {aD:List (PS×List Addr)} {oth:List Gr} (PE:PassesOwn (model rw1.prog w) A ((eJ (k+10)).env L) E)
  (n:Now w G aY L (dG wd.n 40 #[] []) (dZ s (aD.map cF) (aD.map cZ) []) mm X aA s0.heap) (ae:(adr X).Nodup) (H:Hd w X (mV aD oth s.eqs)) (h5:aD.length<=5)
  (ao:∀b (fs:List (Fld×List Addr)) sh aV aS aB h' aU,gM wd #[] [] (aD.map (·.1))=.ok (b,fs.map (·.1))->adr aB=adr aA->
   Now w G aY L (dG wd.n 40 b []) (dZ {s with eqs:=sh} (aD.map cF) (aD.map cZ) (fs.map λf=>cS f.2)) aV aS aB h'->(adr aS).Nodup->
   Hd w aS (aD.map pg++(fs.map (fg wd)++(sh.grs++oth)))->ShGe s.eqs sh->(∀q∈aD.map (·.1),needs sh q)->Q .next {s0 with heap:=h',toks:=aU})
  (ap:∀er e nw h' aU,gM wd #[] [] (aD.map (·.1))=.error er->RF w s (aD.map cF) (mV aD oth) (adr aA) nw->pH (model rw1.prog w) A ((eJ (k+10)).fenv L) base aY outer e er.cls nw {s0 with heap:=h',toks:=aU}->E (.ref e) {s0 with heap:=h',toks:=aU}):
  wpAny (model rw1.prog w) A (exec iC ((eJ (k+10)).env L)) Q E s0:=by
 have ac:(eJ (k+10)).cs=none:=rfl
 have hL:=C.c0 ac
 obtain⟨pos,hF⟩:=xB
 rw[hF]
 have hst0:(dZ s (aD.map cF) (aD.map cZ) []).set 23 .fz=dQ s (aD.map cF) []:=rfl
 have hset:∀(s:LS) (fx:List Value),(dQ s (aD.map cF) fx).set 23 (.list ((aD.map cZ).map .lit))=dZ s (aD.map cF) (aD.map cZ) fx:=λs fx=>rfl
 refine uJ (us:=aD.map cZ) (j:=23) C ac (s:=s0) PE n ae HD (HC _ _ _ _ _ _) rfl (λrem loc st xs=>NJ w wd s aD oth rem loc st xs) (λ_ _ _=>False) ?_ ?_ (λ_ _ _ h=>h.elim) ?_ ?_ (λ_ _ _ _ _ _ _ _ h=>h.elim)
 ·rw[hst0]
  exact⟨[],aD,#[],[],s.eqs,rfl,rfl,rfl,rfl,rfl,H,.rfl',nofun⟩
 ·intro r loc st xs zz;refine q56 zz λdone todo b fs sh _ _ _ _ y9 _=>?_;clear zz;subst y9
  rfl
 ·intro v r loc st xs aI aw its h1 aW G' zz e1 n1 nd1 Qb k1 _;refine q58 zz λdone todo b fs sh hp hr hrun y8 y9 H1 hge hnd=>?_;clear zz;subst y8 y9
  cases todo with
  |nil=>exact xA hr.symm
  |cons qa todo=>
  obtain⟨q,as⟩:=qa
  injection hr with hv hr
  have hlen:done.length+1<=5:=by
   have:=congrArg List.length hp
   simp at this
   omega
  obtain⟨sz1,sz2⟩:=iU hrun
  rw[bF,Array.size_empty,Nat.zero_add] at sz1
  rw[bF,bF,List.length_nil,Nat.zero_add] at sz2
  have hwn:=wd.n_le
  have hb:b.size+wd.n<=40:=by
   rw[sz1,show wd.n*done.length+wd.n=wd.n*(done.length+1) from by rw[Nat.mul_add,Nat.mul_one]]
   exact bl (Nat.mul_le_mul hwn hlen) (by decide)
  have hmap:aD.map pg=done.map pg++(q.grp,as)::todo.map pg:=by
   rw[hp,bH,bL]
   rfl
  have H2:Hd w (its++xs) ((j2 its::done.map pg)++(q.grp,as)::((todo.map pg++fs.map (fg wd))++(sh.grs++oth))):=by
   have:=p4 nd1 H1
   rw[hmap] at this
   refine Hd.perm ?_ this
   simp only[bB,bk]
   exact .refl _
  have PE':PassesOwn (model rw1.prog w) A ((eJ (k+10)).env L) E:=PE
  refine BF (s0:={s0 with heap:=h1,toks:=aW}) (s:={s with eqs:=sh}) (fl:=fs.map (·.1)) C PE n1 nd1 H2 hb (by rw[bF];omega) hv (λb' fn sh' aQ au aJ h2 aX hs e2 n2 nd2 H3 hge2 hneed=>?_) λer st2 au aJ e h2 aX hs R2 off2 nd2 ht x2 H3 fl2=>?_
  ·obtain⟨xs3,n3,nd3,H4⟩:=kF n2 nd2 (λc hc=>by rw[hL] at hc;exact b5 hc) H3
   refine k1 .next _ _ aQ xs3 aJ h2 aX (.inl rfl) ⟨done++[(q,as)],todo,b',fs++fn,sh',by rw[hp];simp,hr,?_,rfl,?_,?_,hge.trans hge2,?_⟩ (e2.trans e1) n3 nd3
   ·rw[bH,bH]
    exact r8 hrun hs
   ·rw[bH]
   ·refine Hd.perm ?_ H4
    rw[hmap,bH]
    simp only[bB,bk]
    exact .refl _
   ·intro z hz
    rw[bH,bN] at hz
    rcases hz with hz|hz
    ·exact(hnd z hz).ge hge2
    ·simp at hz
     subst hz
     exact hneed
  ·refine ap er e (au++aJ) h2 aX ?_ ⟨G',st2,au,aJ,sh,rfl,R2,off2,nd2,ht,?_,?_,hge⟩ fl2
   ·rw[hp,bH,bL]
    exact vG hrun hs
   ·obtain⟨t,et⟩:=x2
    rw[et,e1,bu]
    have:=n.R.len
    simp only[adr,bF,this]
    show 23<=25
    omega
   ·refine Hd.right (a:=j2 its::fs.map (fg wd)) (Hd.perm ?_ H3)
    unfold mV
    rw[hmap]
    simp only[bB,bk]
    refine List.Perm.cons _ ?_
    have h1:(List.map pg done++(q.grp,as)::(List.map pg todo++(List.map (fg wd) fs++(sh.grs++oth))))=(List.map pg done++(q.grp,as)::List.map pg todo)++(List.map (fg wd) fs++(sh.grs++oth)):=by simp
    have h2:(List.map (fg wd) fs++(List.map pg done++(q.grp,as)::(List.map pg todo++(sh.grs++oth))))=List.map (fg wd) fs++((List.map pg done++(q.grp,as)::List.map pg todo)++(sh.grs++oth)):=by simp
    rw[h1,h2]
    exact nO _ _ _
 ·intro loc st aw xs aI h1 aW zz e1 n1 nd1;refine q58 zz λdone todo b fs sh hp hr hrun y8 y9 H1 hge hnd=>?_;clear zz;subst y8 y9
  cases todo with
  |cons=>exact xA hr
  |nil=>
  rw[bQ] at hp
  subst hp
  exact ao b fs sh aw xs aI h1 aW hrun e1 n1 nd1 H1 hge hnd
end
abbrev iI (k:Nat):Fn:=dY r907_4 k
noncomputable def fE:Str:=".data"
noncomputable def gE:Str:=".bss"
noncomputable def cG (nm:Str) (ps:List Value):List SO:=[.inst 795 1,.dict [("name",.str nm),("pieces",.obj 2),("labels",.obj 3)],.listB 100 (ps.map .lit),.ud []]
def dK (s:LS) (nm:Str) (ps aE aG fx:List Value):List SO:=(s.sT.set 5 (.dict [("program",.obj 6),("section",.obj 25),("scope",.obj 11)]))++[.list (aE.map .lit),.list (aG.map .lit),.listB 5 (fx.map .lit)]++(cG nm ps).map (lG 25)
noncomputable def eG (b:Array UInt8):Loc:=[("at",.none),("fixups",.obj 24),("octets",.bytes 40 b),("self",.obj 4)]
abbrev ON:Stmt:=b8 r907_4.body
abbrev HN:Stmt:=l5 r907_4.body
theorem dX:∃W:Pos×Expr×Expr×Pos×Pos×Pos×Pos,r907_4.body=[.If (fQ ON) [.Raise (some (.Call (.Name "LayoutError" W.1) [W.2.1,W.2.2.1] [] W.2.2.2.1)) none W.2.2.2.2.1] [] W.2.2.2.2.2.1,.If (fQ HN) [b8 (wN HN)] [] W.2.2.2.2.2.2]/\
  (∀(k:Nat) (st:List SO) (o:Array UInt8),E0.E (iI (k+5)) st (eG o) (.Name "LayoutError" W.1)=.ret (.lit (.ref 95),st))/\
  (∀(k:Nat) (s:LS) (ps aE aG fx:List Value) (o:Array UInt8),oH E0 (iI (k+5)) (dK s gE ps aE aG fx++[.list []]) (eG o) [W.2.1,W.2.2.1]=.ret ([.str "more than noughts in .bss",.none],dK s gE ps aE aG fx++[.list []])):=
 ⟨(_,_,_,_,_,_,_),rfl,λk st o=>by kernel_rfl,λk s ps aE aG fx o=>by kernel_rfl⟩
def HO:Pos:=(az dX).1
def RU:Expr:=(az dX).2.1
def RW:Expr:=(az dX).2.2.1
def zN:Pos:=(az dX).2.2.2.1
def HP:Pos:=(az dX).2.2.2.2.1
def ZH:Pos:=(az dX).2.2.2.2.2.1
def OO:Pos:=(az dX).2.2.2.2.2.2
theorem BH:r907_4.body=[.If (fQ ON) [.Raise (some (.Call (.Name "LayoutError" HO) [RU,RW] [] zN)) none HP] [] ZH,.If (fQ HN) [b8 (wN HN)] [] OO]/\
  (∀(k:Nat) (st:List SO) (o:Array UInt8),E0.E (iI (k+5)) st (eG o) (.Name "LayoutError" HO)=.ret (.lit (.ref 95),st))/\
  (∀(k:Nat) (s:LS) (ps aE aG fx:List Value) (o:Array UInt8),oH E0 (iI (k+5)) (dK s gE ps aE aG fx++[.list []]) (eG o) [RU,RW]=.ret ([.str "more than noughts in .bss",.none],dK s gE ps aE aG fx++[.list []])):=Classical.choose_spec dX
theorem rO1 (k:Nat) (s:LS) (ps aE aG fx:List Value) (b:Array UInt8):E0.T (iI (k+5)) (dK s fE ps aE aG fx) (eG b) (fQ ON)=.ret (false,dK s fE ps aE aG fx):=by kernel_rfl
theorem rO2 (k:Nat) (s:LS) (ps aE aG fx:List Value) (f:Value) (b:Array UInt8):E0.T (iI (k+5)) (dK s gE ps aE aG (f::fx)) (eG b) (fQ ON)=.ret (true,dK s gE ps aE aG (f::fx)++[.list []]):=by kernel_rfl
theorem rO3 (k:Nat) (s:LS) (ps aE aG:List Value) (b:Array UInt8):E0.T (iI (k+5)) (dK s gE ps aE aG []) (eG b) (fQ ON)=
  .br (decide (0<=(b.size:Int)/\(b.size:Int)<=100000)) (.ret (b.toList !=(Array.replicate (b.size:Int).toNat 0).toList,dK s gE ps aE aG []++[.list []])) .no:=by kernel_rfl
theorem rO4 (k:Nat) (st:List SO) (b:Array UInt8):E0.T (iI (k+5)) st (eG b) (fQ HN)=.ret (decide ((b.size:Int)>0),st):=by kernel_rfl
noncomputable def lB (b:Array UInt8) (fx:List Value):List SO:=[.inst 621 1,.dict [("way",.str "octets"),("at",.none),("octets",.bytes 40 b),("fixups",.obj 2)],.listB 5 (fx.map .lit)]
def f8 (s:LS) (aE aG:List Value):List SO:=(s.sT.set 5 (.dict [("program",.obj 6),("section",.obj 25),("scope",.obj 11)]))++[.list (aE.map .lit),.list (aG.map .lit)]
def rY (nm:Str) (ps fx:List Value) (b:Array UInt8) (j j':Nat) (ρ:List Addr):List (List SO):=
 [[.inst 795 1,.dict [("name",.str nm),("pieces",.obj 2),("labels",.obj 3)],.listB 101 (((ps.map SV.lit).map (qX 25)++[SV.obj j]).map (cD ρ [25,26,27,28])),.ud []],
  [.inst 621 1,.dict [("way",.str "octets"),("at",.none),("octets",.bytes 40 b),("fixups",.obj 2)],.listB 5 ((fx.map SV.lit).map (cD ρ [j,j',24]))]]
theorem rP1 (ρ:List Addr) (k:Nat) (s:LS) (ps aE aG fx:List Value) (b:Array UInt8):
  cX (lf ρ 24 [[25,26,27,28],[30,29,24]] []) (E0.S (iI (k+5)) (dK s fE ps aE aG fx) (eG b) [b8 (wN HN)])=.ret (some ⟨.next,f8 s aE aG,rY fE ps fx b 30 29 ρ,[]⟩):=by kernel_rfl
theorem rP2 (ρ:List Addr) (k:Nat) (s:LS) (ps aE aG fx:List Value) (b:Array UInt8):
  cX (lf ρ 24 [[25,26,27,28],[31,30,24]] []) (E0.S (iI (k+5)) (dK s gE ps aE aG fx++[.list []]) (eG b) [b8 (wN HN)])=.ret (some ⟨.next,f8 s aE aG,rY gE ps fx b 31 30 ρ,[]⟩):=by kernel_rfl
def eU (aF:Bool):Str:=if aF then gE else fE
noncomputable def jX (aF:Bool) (b:Array UInt8) {α:Type} (fs:List α):Bool:=aF&&(!fs.isEmpty||(b.toList !=(Array.replicate b.size (0:UInt8)).toList))
theorem lF {π:List Nat} (l:List Value):(l.map SV.lit).map (cD ρ π)=l.map SV.lit:=by rw[List.map_map];rfl
theorem hX (k:Nat) (l:List Value):(l.map SV.lit).map (qX k)=l.map SV.lit:=by rw[List.map_map];rfl
theorem HQ (nm:Str) (ps fx:List Value) (b:Array UInt8) (j j':Nat) (ρ:List Addr) (hj:29<=j):rY nm ps fx b j j' ρ=[[.inst 795 1,.dict [("name",.str nm),("pieces",.obj 2),("labels",.obj 3)],.listB 101 ((ps++[Value.ref (ρ.getD j 0)]).map .lit),.ud []],lB b fx]:=by
 delta rY lB
 rw[hX,bH,lF,lF,bH]
 have:dP [25,26,27,28] j 0=none:=by
  cases e:dP [25,26,27,28] j 0 with
  |none=>rfl
  |some i=>
   refine b7 (eQ e) λm h1 h2=>?_
   have:=bD h2
   simp at this
   omega
 have e2:cD ρ [25,26,27,28] (.obj j)=.lit (.ref (ρ.getD j 0)):=by
  show(match dP [25,26,27,28] j 0 with|some k=>SV.obj k|none=>_)=_
  rw[this]
 simp only[bL,bf,e2]
section
variable {w:World}
theorem Grp.weak {g:dJ} {aT:List SO} (R:Grp w st g) (hl:aT.length=st.length) (h:∀(i:Nat) (so':SO),aT[i]? =some so'->∃so:SO,st[i]? =some so/\∀G ρ a o,RO w G ρ a so o->RO w G ρ a so' o):Grp w aT g:=λG=>⟨by rw[(R G).len,hl],(R G).nd,λi so' hi=>by
 refine b7 (h i so' hi) λso h1 h2=>?_
 refine b7 ((R G).at_ i so h1) λp hp hr=>?_
 exact⟨p,hp,h2 _ _ _ _ hr⟩⟩
theorem Hd.weak {gs:List Gr} {aT:List SO} {a:List Addr} (H:Hd w xs ((st,a)::gs)) (hl:aT.length=st.length) (h:∀(i:Nat) (so':SO),aT[i]? =some so'->∃so:SO,st[i]? =some so/\∀G ρ a o,RO w G ρ a so o->RO w G ρ a so' o):Hd w xs ((aT,a)::gs):=by
 refine⟨λp hp=>?_,H.2⟩
 rcases bX.mp hp with rfl|hp
 ·refine qM (H.1 _ (.head _)) λg h1 h2 h3=>?_
  exact⟨g,h1,Grp.weak h2 hl h,h3⟩
 ·exact H.1 p (.tail _ hp)
theorem J5 {gs:List Gr} {nm:Str} {ps:List Value} {a:List Addr} (H:Hd w xs (([.inst 795 1,.dict [("name",.str nm),("pieces",.obj 2),("labels",.obj 3)],.listB 101 (ps.map .lit),.ud []],a)::gs)) (hp:ps.length<=100):Hd w xs ((cG nm ps,a)::gs):=by
 refine Hd.weak H rfl λi so' hi=>?_
 match i,hi with
 |0,hi=>exact⟨_,rfl,λG ρ a o h=>by(replace hi:=oS hi;subst hi);exact h⟩
 |1,hi=>exact⟨_,rfl,λG ρ a o h=>by(replace hi:=oS hi;subst hi);exact h⟩
 |2,hi=>exact⟨_,rfl,λG ρ a o h=>by(replace hi:=oS hi;subst hi);exact⟨h.1,by simpa using hp⟩⟩
 |3,hi=>exact⟨_,rfl,λG ρ a o h=>by(replace hi:=oS hi;subst hi);exact h⟩
 |n+4,hi=>exact b5 hi
theorem Now.weakA {h:Heap} (n:Now w G aY L loc st mm xs aA h) {i:Nat} {so so':SO} (hi:st[i]? =some so) (ho:∀a o,RO w G (adr aA) a so o->RO w G (adr aA) a so' o):Now w G aY L loc (st.set i so') mm xs aA h:=by
 refine⟨n.F,n.NX,n.CX,n.off,⟨by rw[bq];exact n.R.len,n.R.nd,λj x hx=>?_⟩,n.V⟩
 rw[bc] at hx
 by_cases e:i=j
 ·subst e
  have:i<st.length:=rV hi
  simp[this] at hx
  subst hx
  refine b7 (n.R.at_ i _ hi) λp hp hr=>?_
  exact⟨p,hp,ho _ _ hr⟩
 ·simp[e] at hx
  exact n.R.at_ j x hx
theorem PL {P:Params} {x:Str} {v v':SV} {b:List (Str×SV)} (hv:∀u,RV ρ v u->RV ρ v' u) {a:List (Str×SV)}:∀{en:List DictEntry},RE P ρ (a++(x,v)::b) en->RE P ρ (a++(x,v')::b) en:=by
 induction a with
 |nil=>intro en h;exact All2.cs h λe t ez a r=>ez▸⟨iJ a λtk u e1 h=>⟨tk,u,e1,hv u h⟩,r⟩
 |cons z a ih=>intro en h;exact All2.cs h λe t ez a r=>ez▸⟨a,ih r⟩
theorem M2 {a:Addr} {o:Obj} {i:Nat} (x:Addr) (hv:v=.ref x) (hi:ρ[i]? =some x) {f g:List (Str×SV)} {nm:Str} (h:RO w G ρ a (.dict (f++(nm,.lit v)::g)) o):RO w G ρ a (.dict (f++(nm,.obj i)::g)) o:=by
 refine b7 h λen h1 h2=>?_;clear h
 refine⟨en,PL (λu hu=>?_) h1,?_⟩
 ·have hu:u=v:=hu
  exact⟨x,hi,by rw[hu,hv]⟩
 ·rw[h2]
  simp
end
noncomputable def tG:Loc:=[]
theorem j0 (s:LS) (aE aG:List Value) (ρ:List Addr) {x:Addr} (hs:s.sec=.ref x) (hx:ρ.getD 25 0=x):(f8 s aE aG).map (cO ρ (List.range 24))=s.sT++[.list (aE.map .lit),.list (aG.map .lit)]:=by
 unfold f8
 rw[bH,List.map_set,LS.sel s (by omega)]
 have a1:cO ρ (List.range 24) (.dict [("program",.obj 6),("section",.obj 25),("scope",.obj 11)])=.dict [("program",.obj 6),("section",.lit s.sec),("scope",.obj 11)]:=by
  show SO.dict (eV _ _ _)=_
  unfold eV
  simp only[bL,bf]
  rw[b0 (i:=6) (by omega),b0 (i:=11) (by omega),cJ (i:=25) (by omega),hx,hs]
 have a2:∀l:List Value,cO ρ (List.range 24) (.list (l.map .lit))=.list (l.map .lit):=λl=>by
  show SO.list _=_
  rw[cY]
 simp only[bL,bf]
 rw[a1,a2,a2]
 rfl
def xL (nm:Str) (ps:List Value) (ρ:List Addr):List SO:=[.inst 795 1,.dict [("name",.str nm),("pieces",.obj 2),("labels",.obj 3)],.listB 100 (((ps.map SV.lit).map (qX 25)).map (cD ρ [25,26,27,28])),.ud []]
theorem zV (nm:Str) (ps:List Value) (ρ:List Addr):xL nm ps ρ=cG nm ps:=by
 delta xL cG
 rw[hX,lF]
theorem rQ1 (ρ:List Addr) (k:Nat) (s:LS) (ps aE aG fx:List Value) (b:Array UInt8):
  cX (lf ρ 24 [[25,26,27,28]] []) (E0.S (iI (k+5)) (dK s fE ps aE aG fx) (eG b) [])=.ret (some ⟨.next,f8 s aE aG,[xL fE ps ρ],[]⟩):=by kernel_rfl
theorem rQ2 (ρ:List Addr) (k:Nat) (s:LS) (ps aE aG fx:List Value) (b:Array UInt8):
  cX (lf ρ 24 [[25,26,27,28]] []) (E0.S (iI (k+5)) (dK s gE ps aE aG fx++[.list []]) (eG b) [])=.ret (some ⟨.next,f8 s aE aG,[xL gE ps ρ],[]⟩):=by kernel_rfl
theorem tO (s:LS) (nm:Str) (ps aE aG fx:List Value):dC (dK s nm ps aE aG fx++[.list []]) 24 [[25,26,27,28]]=true:=by kernel_rfl
theorem aC8 (ρ:List Addr) (s:LS) (nm:Str) (ps aE aG fx:List Value):gO ρ (dK s nm ps aE aG fx++[.list []]) [25,26,27,28]=xL nm ps ρ:=by kernel_rfl
section
variable {w:World}
theorem jY {G2:Addr->Obj} {g h':Heap} {L':FL} {loc loc2:Loc} {st2:List SO} {aQ:Str->Option Value} {au aJ:dJ} {R':Prop} (hL:L.c=none) (n2:Now w G2 g L' loc2 st2 aQ au aJ h')
  (V:∀y v,lk loc y=some v->VL L mm (adr aJ) y v) (kk:Now w G2 aY L loc st2 mm au aJ h'->R'):∃(L₂:Addr) (m':Str->Option Value) (nw:List (Addr×Obj)),Fr g L₂ h' m'/\News g L₂ h' nw/\(Fr aY L.a h' mm->News aY L.a h' nw->R'):=
 ⟨L'.a,aQ,au++aJ,n2.F,n2.NX,λF3 N3=>kk ⟨F3,N3,FL.none_cx hL,n2.off,n2.R,V⟩⟩
theorem HR {k:Nat} (hdn:fn.dn=k+10) (ac:fn.cs=none) (C:Fx w fn A outer aZ base aY L p loose aC mg mb)
  {s0:Shared} {s:LS} {aE aG fx ps:List Value} {b:Array UInt8} {aF:Bool} {sa:List Addr} {gs:List Gr} {R:Result->Shared->Prop}
  (n:Now w G aY L loc (dZ s aE aG fx) mm X aA s0.heap) (ae:(adr X).Nodup) {nm:Str} (ah:nm=eU aF) (H:Hd w X ((cG nm ps,sa)::gs)) (ag:s.sec=cS sa) (am:ps.length+1<=100) (hb:b.size<=40)
  (hv:RVs (adr aA) [.obj 4,.bytes 40 b,.obj 24,.none] us)
  (ao:∀(oa:List Addr) aV aS aB h' aU,jX aF b fx=false->adr aB=(adr aA).take 24->Now w G aY L tG (s.sT++[.list (aE.map .lit),.list (aG.map .lit)]) aV aS aB h'->(adr aS).Nodup->
   Hd w aS (if b.size=0 then(cG nm ps,sa)::gs else(cG nm (ps++[cS oa]),sa)::(lB b fx,oa)::gs)->aV=mm->R (.ok (.ret .none)) {s0 with heap:=h',toks:=aU})
  (ap:∀aT aS aB e h' aU,jX aF b fx=true->Rep w G aT aB->(∀p∈aS,∀q∈aB,p.1≠q.1)->(adr aS).Nodup->aT.take 23=s.sT++[.list (aE.map .lit)]->(adr aB).take 24=(adr aA).take 24->Hd w aS ((cG nm ps,sa)::gs)->
   pH (model rw1.prog w) A (fn.fenv L) base aY outer e 95 (aS++aB) {s0 with heap:=h',toks:=aU}->R (.error (.ref e)) {s0 with heap:=h',toks:=aU}):
  codeAny (model rw1.prog w) A (.call (.ref 907) ⟨us,[]⟩) R s0:=by
 have hL:=C.c0 ac
 have hd:=C.hd
 have hu:=C.hu
 rw[hdn] at hd hu
 refine fT (k:=k+5) rfl (r5 w) C.B C.X C.T C.hA rfl C.hk C.hh (by omega) (by omega) n hv rfl ?_
 intro g L' h1 aW aw aI x1 FG C' n1 Q' E' hRet PE hE
 have n1:Now w G g L' (eG b) (dZ s aE aG fx) aw X aI h1:=by
  have q1:m8 r907_4 [.obj 4,.bytes 40 b,.obj 24,.none] (dZ s aE aG fx).length=eG b:=by kernel_rfl
  have q2:dZ s aE aG fx++j3 r907_4=dZ s aE aG fx:=by
   rw[show j3 r907_4=[] from by kernel_rfl,bQ]
  rw[q1,q2] at n1
  exact n1
 have hL':=C'.c0 rfl
 have hnl:aA.length=25:=n.R.len
 have hnl1:aI.length=25:=n1.R.len
 have ea1:adr aI=adr aA:=cM x1 n.R n1.R
 obtain⟨g2,eg,Rg,n2,nd2,H2⟩:=Hd.focus (gs₁:=[]) H n1 (λc hc=>by rw[hL'] at hc;exact b5 hc) ae
 have n2:Now w G g L' (eG b) (dZ s aE aG fx++(cG nm ps).map (lG 25)) aw (minus X g2) (aI++g2) h1:=n2
 have hgl:g2.length=4:=Rg.len
 have i25:(adr (aI++g2))[25]? =some (sa.getD 0 0):=by
  have h1:(adr (aI++g2))[25]? =(adr g2)[0]? :=by
   simp only[adr,bH]
   rw[bV (by simp[hnl1])]
   simp[hnl1]
  rw[h1,eg,bC]
  have:0<sa.length:=by
   have e2:(adr g2).length=sa.length:=by rw[eg]
   rw[<-e2]
   simp[adr,hgl]
  rw[bR this]
  rfl
 have n3:Now w G g L' (eG b) (dK s nm ps aE aG fx) aw (minus X g2) (aI++g2) h1:=
  Now.weakA n2 (i:=5) (so:=.dict [("program",.obj 6),("section",.lit s.sec),("scope",.obj 11)]) (so':=.dict [("program",.obj 6),("section",.obj 25),("scope",.obj 11)]) rfl (λa o h=>M2 (f:=[("program",.obj 6)]) (g:=[("scope",.obj 11)]) (sa.getD 0 0) ag i25 h)
 refine jN BH λhB f1 f2=>?_
 have hal:(adr (aI++g2)).length=29:=by simp[adr,hnl1,hgl]
 have e25:(adr (aI++g2)).take 25=adr aA:=by
  have:(adr aI).length=25:=by simp[adr,hnl1]
  rw[adr,bH,<-adr,<-this,List.take_left,ea1]
 have gr:∀{ρ:List Addr},Ext (adr (aI++g2)) ρ->[25,26,27,28].map (λi=>ρ.getD i 0)=sa/\ρ.getD 25 0=sa.getD 0 0/\(List.range 24).map (λi=>ρ.getD i 0)=(adr aA).take 24:=fun{ρ} x=>by
  have h1:=(eR x).2
  rw[hnl1,hgl,eg] at h1
  refine⟨h1,?_,?_⟩
  ·rw[bC,x.get i25];rfl
  ·rw[take_getD x (by rw[hal];omega),<-e25,List.take_take];rfl
 rw[hB]
 have second:∀(ex:List SO) (j j':Nat),29<=j->(∀ρ,cX (lf ρ 24 [[25,26,27,28],[j,j',24]] []) (E0.S (iI (k+5)) (dK s nm ps aE aG fx++ex) (eG b) [b8 (wN HN)])=.ret (some ⟨.next,f8 s aE aG,rY nm ps fx b j j' ρ,[]⟩))->
   (∀ρ,cX (lf ρ 24 [[25,26,27,28]] []) (E0.S (iI (k+5)) (dK s nm ps aE aG fx++ex) (eG b) [])=.ret (some ⟨.next,f8 s aE aG,[xL nm ps ρ],[]⟩))->jX aF b fx=false->
   ∀aK h3 tk3,Ext (adr (aI++g2)) (adr aK)->Now w G g L' (eG b) (dK s nm ps aE aG fx++ex) aw (minus X g2) aK h3->
   wpAny (model rw1.prog w) (A.deeper ((iI (k+5)).fenv L')) (execs [.If (fQ HN) [b8 (wN HN)] [] OO] ((iI (k+5)).fenv L'))
    Q' E' {s0 with heap:=h3,toks:=tk3}:=by
  intro ex j j' hj hP hQ hlay aK h3 tk3 x3 n3
  refine wpAny_execs_cons (wpAny_If ((I0 w).Tq _ _ _ _ C' (cP (rO4 k _ b)) n3 λaL h4 tk4 x4 n4=>?_))
  have hlen:24<=(dK s nm ps aE aG fx++ex).length:=by
   rw[bI]
   show 24<=29+_
   omega
  by_cases hz:b.size=0
  ·rw[show decide ((b.size:Int)>0)=false from by simp[hz]]
   simp only[bW,if_false]
   refine m9 (ih:=E0) (s:={s0 with heap:=h4,toks:=tk4}) (I0 w) C' rfl (loc:=eG b) (st:=dK s nm ps aE aG fx++ex) (b:=[]) PE n4 nd2 H2 (k:=24) (pis:=[[25,26,27,28]]) (ns:=[]) (st1:=f8 s aE aG) (gs1:=λρ=>[xL nm ps ρ]) (vs:=[]) hlen rfl (λρ=>.ret (hQ ρ)) λρ xs5 mm5 aM h5 tk5 x5 ea5 n5 nd5 H5=>?_
   refine jN (gr ((x3.trans x4).trans x5)) λg1 g3 g4=>?_
   rw[j0 s aE aG ρ ag g3] at n5
   refine wpAny_execs_nil (hRet _ _ (jY (loc:=tG) hL n5 (λ_ _ h=>by exact b5 h) λn6=>ao [] mm xs5 aM h5 tk5 hlay (ea5.trans g4) n6 nd5 ?_ rfl))
   rw[if_pos hz]
   rw[zV,bL,g1] at H5
   exact Hd.perm (bM (l₂:=[_])) H5
  ·rw[show decide ((b.size:Int)>0)=true from by simp;omega]
   simp only[if_true]
   refine m9 (ih:=E0) (s:={s0 with heap:=h4,toks:=tk4}) (I0 w) C' rfl (loc:=eG b) (st:=dK s nm ps aE aG fx++ex) (b:=[b8 (wN HN)]) PE n4 nd2 H2 (k:=24) (pis:=[[25,26,27,28],[j,j',24]]) (ns:=[]) (st1:=f8 s aE aG) (gs1:=λρ=>rY nm ps fx b j j' ρ) (vs:=[]) hlen rfl (λρ=>.ret (hP ρ)) λρ xs5 mm5 aM h5 tk5 x5 ea5 n5 nd5 H5=>?_
   refine jN (gr ((x3.trans x4).trans x5)) λg1 g3 g4=>?_
   rw[j0 s aE aG ρ ag g3] at n5
   refine wpAny_execs_nil (hRet _ _ (jY (loc:=tG) hL n5 (λ_ _ h=>by exact b5 h) λn6=>ao [ρ.getD j 0,ρ.getD j' 0,ρ.getD 24 0] mm xs5 aM h5 tk5 hlay (ea5.trans g4) n6 nd5 ?_ rfl))
   rw[if_neg hz]
   rw[HQ _ _ _ _ _ _ _ hj,bL,g1] at H5
   refine J5 ?_ (by simpa using am)
   exact Hd.perm (bM (l₂:=[_,_])) H5
 refine bcs (b:=aF) (λhi=>?_) λhi=>?_
 ·have hnm':nm=fE:=by rw[ah,hi];rfl
  refine wpAny_execs_cons (wpAny_If ((I0 w).Tq (iI (k+5)) (dK s nm ps aE aG fx) (eG b) (fQ ON) C' (v:=false) (aT:=dK s nm ps aE aG fx) (by rw[hnm',rO1];exact rfl) n3 λaL h4 tk4 x4 n4=>?_))
  simp only[bW,if_false]
  refine wpAny_execs_nil ?_
  rw[<-bQ (dK s nm ps aE aG fx)] at n4
  refine second [] 30 29 (by omega) (λρ=>?_) (λρ=>?_) (by rw[hi];unfold jX;rw[Bool.false_and]) aL h4 tk4 x4 n4<;>rw[hnm',bQ (dK s fE ps aE aG fx)]
  ·exact rP1 ρ k s ps aE aG fx b
  ·exact rQ1 ρ k s ps aE aG fx b
 ·have hnm':nm=gE:=by rw[ah,hi];rfl
  have raise:∀{Q:Flow->Shared->Prop} aL h4 tk4,jX aF b fx=true->Ext (adr (aI++g2)) (adr aL)->Now w G g L' (eG b) (dK s nm ps aE aG fx++[.list []]) aw (minus X g2) aL h4->
    wpAny (model rw1.prog w) (A.deeper ((iI (k+5)).fenv L')) (exec (.Raise (some (.Call (.Name "LayoutError" HO) [RU,RW] [] zN)) none HP) ((iI (k+5)).env L'))
     Q E' {s0 with heap:=h4,toks:=tk4}:=by
   intro Q aL h4 tk4 hlay x4 n4
   have f2:=f2 k s ps aE aG fx b
   rw[<-hnm'] at f2
   refine m7 C' rfl (XH w) (k:=k+4) rfl n4 (f1 k _ b) f2 λh5 tk5 aM e x5 n5 he e0 ne=>?_
   have x45:=x4.trans x5
   refine HZ (d7 n5 nd2 (k:=24) (pis:=[[25,26,27,28]]) (tO s nm ps aE aG fx) (by rfl) H2) λxs6 n6 nd6 _ H6 ea6 sub6=>?_
   refine jN (gr x45) λg1 g3 g4=>?_
   rw[show gO (adr aM) (dK s nm ps aE aG fx++[.list []]) (List.range 24)=s.sT++[.list (aE.map .lit),.list (aG.map .lit)] from(selSt_take (by rw[bI];show 24<=29+1;omega)).trans (j0 s aE aG _ ag g3)] at n6
   refine hE _ _ (wK C' (s':={s0 with heap:=h5,toks:=tk5}) n6 he e0 (λq hq=>ne q (sub6 q hq)) _ _ λh6 R6 hsm6=>?_)
   refine ap _ xs6 _ e h6 tk5 hlay n6.R n6.off nd6 rfl ?_ ?_ (FV (s':={s0 with heap:=h6,toks:=tk5}) C FG R6 hsm6)
   ·rw[ea6,g4,List.take_take]
    rfl
   ·rw[show [[25,26,27,28]].map (oO (adr aM) (dK s nm ps aE aG fx++[.list []]))=[(cG nm ps,sa)] by
     simp only[bL,bf]
     unfold oO
     rw[g1,aC8,zV]] at H6
    exact Hd.perm (bM (l₂:=[_])) H6
  refine XT (l:=fx) (λhf=>?_) λf ft hf=>?_
  ·refine wpAny_execs_cons (wpAny_If ((I0 w).T (iI (k+5)) (dK s nm ps aE aG fx) (eG b) (fQ ON) C' (φ:=λy=>y=(jX aF b fx,dK s nm ps aE aG fx++[.list []])) ?_ n3 λv st4 aL h4 tk4 af x4 n4=>?_))
   ·rw[hnm',hf,hi,rO3]
    refine⟨λ_=>rfl,λe=>?_⟩
    have:=of_decide_eq_false e
    omega
   injection af with e1 e2
   rw[e2] at n4
   refine bcs (b:=jX aF b fx) (λhl=>?_) λhl=>?_<;>rw[e1,hl]
   ·simp only[bW,if_false]
    refine wpAny_execs_nil ?_
    refine second [.list []] 31 30 (by omega) (λρ=>?_) (λρ=>?_) hl aL h4 tk4 x4 n4<;>rw[hnm']
    ·exact rP2 ρ k s ps aE aG fx b
    ·exact rQ2 ρ k s ps aE aG fx b
   ·simp only[if_true]
    exact wpAny_execs_cons (raise aL h4 tk4 hl x4 n4)
  ·refine wpAny_execs_cons (wpAny_If ((I0 w).Tq (iI (k+5)) (dK s nm ps aE aG fx) (eG b) (fQ ON) C' (v:=true) (aT:=dK s nm ps aE aG fx++[.list []]) (by rw[hnm',hf,rO2];exact rfl) n3 λaL h4 tk4 x4 n4=>?_))
   simp only[if_true]
   exact wpAny_execs_cons (raise aL h4 tk4 (by rw[hi,hf];rfl) x4 n4)
end
abbrev Y4:Stmt:=b8 r942_4.body
def hY (s:LS) (aE aG:List Value):List SO:=s.sT++[.list (aE.map .lit),.list (aG.map .lit)]
def zH (wd:Wd):Loc:=[("at",.none),("nodes",.obj 23),("width",.int wd.n),("self",.obj 4)]
theorem d8:∃W:Pos×Pos×Pos×Expr×Expr×Expr×Pos,r942_4.body=[Y4,iC,.Expr (.Call (.Attribute (.Name "self" W.1) "octets" W.2.1) [W.2.2.2.1,W.2.2.2.2.1,W.2.2.2.2.2.1] [] W.2.2.1) W.2.2.2.2.2.2]/\fN 3 W.2.1 W.2.2.1=true/\
  (∀(k:Nat) (st:List SO) (wd:Wd) (o:Array UInt8),E0.E (eJ (k+10)) st (dG wd.n 40 o []) (.Name "self" W.1)=.ret (.obj 4,st))/\
  (∀(k:Nat) (st:List SO) (wd:Wd) (o:Array UInt8),oH E0 (eJ (k+10)) st (dG wd.n 40 o []) [W.2.2.2.1,W.2.2.2.2.1,W.2.2.2.2.2.1]=.ret ([.bytes 40 o,.obj 24,.none],st)):=
 ⟨(_,_,_,_,_,_,_),rfl,by rfl,λk st wd o=>by kernel_rfl,λk st wd o=>by kernel_rfl⟩
def N6:Pos:=(az d8).1
def N5:Pos:=(az d8).2.1
def zB:Pos:=(az d8).2.2.1
def YU:Expr:=(az d8).2.2.2.1
def YV:Expr:=(az d8).2.2.2.2.1
def YW:Expr:=(az d8).2.2.2.2.2.1
def Q7:Pos:=(az d8).2.2.2.2.2.2
theorem G4:r942_4.body=[Y4,iC,.Expr (.Call (.Attribute (.Name "self" N6) "octets" N5) [YU,YV,YW] [] zB) Q7]/\fN 3 N5 zB=true/\
  (∀(k:Nat) (st:List SO) (wd:Wd) (o:Array UInt8),E0.E (eJ (k+10)) st (dG wd.n 40 o []) (.Name "self" N6)=.ret (.obj 4,st))/\
  (∀(k:Nat) (st:List SO) (wd:Wd) (o:Array UInt8),oH E0 (eJ (k+10)) st (dG wd.n 40 o []) [YU,YV,YW]=.ret ([.bytes 40 o,.obj 24,.none],st)):=Classical.choose_spec d8
theorem rN0 (ρ:List Addr) (s:LS) (aE aG:List Value) (wd:Wd) (k:Nat):
  cX (lf ρ 25 [] dW) (E0.S (eJ (k+10)) (hY s aE aG) (zH wd) [Y4])=.ret (some ⟨.next,s.sT++[.list (aE.map .lit),.list (aG.map .lit),.list []],[],(eB wd 0 #[]).map some⟩):=by kernel_rfl
theorem gM3 (s:LS) (aE aG fx:List Value):wL tb (dZ s aE aG fx) (.obj 4) "octets"=some (.lit (.ref 907),[.obj 4]):=by kernel_rfl
theorem LZ (w:World):keepIn (K w.params) (.ref 907)=true:=by kernel_rfl
def iA (wd:Wd) (aF:Bool) (ps:List PS):Except Err (Array UInt8×List Fld):=match gM wd #[] [] ps with
 | .ok x=>if jX aF x.1 x.2 then .error .lay else .ok x
 | .error e=>.error e
def AZ (nm:Str) (ps:List Value) (sa:List Addr) (b:Array UInt8) (fx:List Value) (oa:List Addr):List Gr:=if b.size=0 then [(cG nm ps,sa)] else [(cG nm (ps++[cS oa]),sa),(lB b fx,oa)]
theorem uS (aF:Bool) (b:Array UInt8) {α β:Type} (f:α->β) (l:List α):jX aF b (l.map f)=jX aF b l:=by
 cases l<;>rfl
section
variable {w:World}
theorem BD {k:Nat} (hdn:fn.dn=k+20) (ac:fn.cs=none) (C:Fx w fn A outer aZ base aY L p loose aC mg mb)
  {s0:Shared} {s:LS} {wd:Wd} {aD:List (PS×List Addr)} {aF:Bool} {nm:Str} {ps:List Value} {sa:List Addr} {oth:List Gr} {R:Result->Shared->Prop}
  (n:Now w G aY L loc (hY s (aD.map cF) (aD.map cZ)) mm X aA s0.heap) (ae:(adr X).Nodup) (H:Hd w X (mV aD ((cG nm ps,sa)::oth) s.eqs)) (ah:nm=eU aF) (ag:s.sec=cS sa) (am:ps.length+1<=100) (h5:aD.length<=5)
  (hv:RVs (adr aA) [.obj 4,.int wd.n,.obj 23,.none] us)
  (ao:∀b (fs:List (Fld×List Addr)) sh (oa:List Addr) aS aB h' aU,iA wd aF (aD.map (·.1))=.ok (b,fs.map (·.1))->adr aB=adr aA->Now w G aY L loc (hY {s with eqs:=sh} (aD.map cF) (aD.map cZ)) mm aS aB h'->(adr aS).Nodup->
   Hd w aS (aD.map pg++(fs.map (fg wd)++(sh.grs++(AZ nm ps sa b (fs.map λf=>cS f.2) oa++oth))))->ShGe s.eqs sh->(∀q∈aD.map (·.1),needs sh q)->R (.ok (.ret .none)) {s0 with heap:=h',toks:=aU})
  (ap:∀er e nw h' aU g₂,iA wd aF (aD.map (·.1))=.error er->RF w s (aD.map cF) (mV aD ((cG nm ps,sa)::oth)) (adr aA) nw->Fr aY L.a g₂ mm->Rsd base g₂ (fn.fenv L::outer) e er.cls nw h'->g₂.UpToSlots h'->R (.error (.ref e)) {s0 with heap:=h',toks:=aU}):
  codeAny (model rw1.prog w) A (.call (.ref 942) ⟨us,[]⟩) R s0:=by
 have hL:=C.c0 ac
 have hd:=C.hd
 have hu:=C.hu
 rw[hdn] at hd hu
 refine fT (k:=k+10) rfl (r6 w) C.B C.X C.T C.hA rfl C.hk C.hh (by omega) (by omega) n hv rfl ?_
 intro g L' h1 aW aw aI x1 FG C' n1 Q' E' hQ PE hE
 have n1:Now w G g L' (zH wd) (hY s (aD.map cF) (aD.map cZ)) aw X aI h1:=by
  have q1:m8 r942_4 [.obj 4,.int wd.n,.obj 23,.none] (hY s (aD.map cF) (aD.map cZ)).length=zH wd:=by kernel_rfl
  have q2:hY s (aD.map cF) (aD.map cZ)++j3 r942_4=hY s (aD.map cF) (aD.map cZ):=by
   rw[show j3 r942_4=[] from by kernel_rfl,bQ]
  rw[q1,q2] at n1
  exact n1
 have hL':=C'.c0 rfl
 have hnl:aA.length=24:=n.R.len
 have ea1:adr aI=adr aA:=cM x1 n.R n1.R
 refine zO G4 λhB o1 e1 e2=>?_
 rw[hB]
 have flown:∀er e nw h' aU,iA wd aF (aD.map (·.1))=.error er->RF w s (aD.map cF) (mV aD ((cG nm ps,sa)::oth)) (adr aA) nw->pH (model rw1.prog w) (A.deeper ((eJ (k+10)).fenv L')) ((eJ (k+10)).fenv L') base g (fn.fenv L::outer) e er.cls nw {s0 with heap:=h',toks:=aU}->
   E' (.ref e) {s0 with heap:=h',toks:=aU}:=λer e nw h' aU hr hF hfl=>
  hE _ _ (hfl _ _ λh'' R2 hsm=>ap er e nw h'' aU g hr hF FG R2 hsm)
 show wpAny _ _ (execs ([Y4]++[iC,_]) _) _ _ _
 refine dS ?_
 refine nA (ih:=E0) (s:={s0 with heap:=h1,toks:=aW}) (I0 w) C' rfl (loc:=zH wd) (st:=hY s (aD.map cF) (aD.map cZ)) (b:=[Y4]) PE n1 ae H (k:=25) (pis:=[]) (ns:=dW) (st1:=s.sT++[.list ((aD.map cF).map .lit),.list ((aD.map cZ).map .lit),.list []]) (gs1:=λ_=>[]) (vs:=eB wd 0 #[]) rfl (λρ=>.ret (rN0 ρ s _ _ wd k)) λρ au aQ aJ h2 aX x2 ea2 n2 nd2 H2=>?_
 have e24:(adr aJ).take 24=adr aA:=by
  rw[ea2]
  have h24:(List.range 24).map (λi=>ρ.getD i 0)=adr aA:=by
   rw[take_getD x2 (by simp[adr,n1.R.len];show 24<=24;omega),ea1]
   have:(adr aA).length=24:=by simp[adr,hnl]
   rw[<-this,bj]
  rw[<-h24,<-List.map_take]
  rfl
 have n2:Now w G g L' (fD ρ 25 dW (eB wd 0 #[])) (s.sT++[.list ((aD.map cF).map .lit),.list ((aD.map cZ).map .lit),.list []]) aQ au aJ h2:=by
  have e:(s.sT++[SO.list ((aD.map cF).map .lit),.list ((aD.map cZ).map .lit),.list []]).map (cO ρ (List.range 25))=s.sT++[.list ((aD.map cF).map .lit),.list ((aD.map cZ).map .lit),.list []]:=by
   rw[bH,LS.sel s (by omega)]
   have a1:∀l:List Value,cO ρ (List.range 25) (.list (l.map .lit))=.list (l.map .lit):=λl=>by
    show SO.list _=_
    rw[cY]
   simp only[bL,bf]
   rw[a1,a1]
   rfl
  rw[e] at n2
  exact n2
 have n3:Now w G g L' (fD ρ 25 dW (eB wd 0 #[])) (dZ s (aD.map cF) (aD.map cZ) []) aQ au aJ h2:=
  Now.weak n2 (i:=24) (so:=.list []) (so':=.listB 5 []) rfl (λρ a o h=>⟨h,Nat.zero_le _⟩)
 have n4:=gU n3 (x:="octets") (m:=0) (m':=40) (b:=#[]) rfl (by decide)
 have eL:jG (fD ρ 25 dW (eB wd 0 #[])) "octets" (.bytes 40 #[])=dG wd.n 40 #[] []:=by
  have h1:jG (fD ρ 25 dW (eB wd 0 #[])) "octets" (.bytes 40 #[])=MB (cD ρ (List.range 25) (.obj 4)) (.int wd.n) (cD ρ (List.range 25) (.obj 23)) .none (.bytes 40 #[]) (cD ρ (List.range 25) (.obj 24)):=rfl
  rw[h1,b0 (by omega),b0 (by omega),b0 (by omega)]
  rfl
 rw[eL] at n4
 have H3:Hd w au (mV aD ((cG nm ps,sa)::oth) s.eqs):=by simpa using H2
 refine wpAny_execs_cons (BE (s0:={s0 with heap:=h2,toks:=aX}) C' PE n4 nd2 H3 h5 (λb fs sh mm5 xs5 aM h5' tk5 hrun e5 n5 nd5 H5 hge hneed=>?_) λer e nw h5' tk5 hrun hF hfl=>?_)
 ·refine wpAny_execs_cons (wpAny_Expr_any (MethodCall_ (pl:=_) ((I0 w).E (eJ (k+10)) (dZ {s with eqs:=sh} (aD.map cF) (aD.map cZ) (fs.map λf=>cS f.2)) (dG wd.n 40 b []) _ C' (cP (e1 k _ wd b)) n5 λv st6 u6 aN h6 tk6 af x6 n6 hv6=>?_) (rW ?_ o1 (iP rfl _ _))) (l8 rfl C'.hk) rfl)
  ·first|exact b5 af|(refine pI af λe1 e2=>?_;clear af;subst e1 e2)
   refine lZ (K9 w) (gM3 {s with eqs:=sh} _ _ _) C'.X n6 hv6 λuf us7 tk7 hf hus=>?_
   obtain rfl:uf=.ref 907:=hf
   obtain⟨ne8,_⟩:=fB (cP (e2 k (dZ {s with eqs:=sh} (aD.map cF) (aD.map cZ) (fs.map λf=>cS f.2)) wd b))
   refine callWith_K C'.X (LZ w) (Mine.R.sA (I0 w) C' (cP (e2 k _ wd b)) n6 λvs st8 us8 aP h8 tk8 af x8 n8 hvs=>⟨C'.X.keeps n8.F.keep,?_⟩) (cR ne8) ?_
   ·first|exact b5 af|(refine pI af λe1 e2=>?_;clear af;(rw[e1] at hvs;rw[e2] at n8))
    obtain⟨sz1,sz2⟩:=iU hrun
    have hb:b.size<=40:=by
     rw[sz1,Array.size_empty,Nat.zero_add,bF]
     exact bl (Nat.mul_le_mul wd.n_le h5) (by decide)
    have ea8:adr aP=adr aM:=(cM x8 n6.R n8.R).trans (cM x6 n5.R n6.R)
    have ea82:adr aP=adr aJ:=ea8.trans e5
    have hH:Hd w xs5 ((cG nm ps,sa)::(aD.map pg++(fs.map (fg wd)++(sh.grs++oth)))):=by
     refine Hd.perm ?_ H5
     have q1:aD.map pg++(fs.map (fg wd)++(sh.grs++(cG nm ps,sa)::oth))=(aD.map pg++(fs.map (fg wd)++sh.grs))++(cG nm ps,sa)::oth:=by simp
     have q2:(cG nm ps,sa)::(aD.map pg++(fs.map (fg wd)++(sh.grs++oth)))=(cG nm ps,sa)::((aD.map pg++(fs.map (fg wd)++sh.grs))++oth):=by simp
     rw[q1,q2]
     exact bt
    have hres:∀{x},jX aF b (fs.map λf=>cS f.2)=x->jX aF b (fs.map (·.1))=x:=fun{x} h=>by rw[uS] at h ⊢;exact h
    refine wpAny_call (HR (k:=k) rfl rfl C' (s0:={s0 with heap:=h8,toks:=tk8}) n8 nd5 ah hH ag am hb ((hus.ext x8).app hvs) (λoa mm9 xs9 news9 h9 tk9 hlay e9 n9 nd9 H9 hmm=>?_) λvX xs9 news9 e h9 tk9 hlay R9 off9 nd9 ht9 ha9 H9 hfl=>?_)
    ·refine wpAny_execs_nil ?_
     have ea9:adr news9=adr aA:=by rw[e9,ea82,e24]
     refine hQ _ _ (jY hL n9 (λy v hy=>by rw[ea9];exact n.V y v hy) λn10=>ao b fs sh oa xs9 news9 h9 tk9 ?_ ea9 n10 nd9 ?_ hge hneed)
     ·unfold iA
      rw[hrun]
      simp only
      rw[if_neg (by rw[hres hlay];decide)]
     ·refine Hd.perm ?_ H9
      unfold AZ
      by_cases hz:b.size=0
      ·rw[if_pos hz,if_pos hz]
       have q1:aD.map pg++(fs.map (fg wd)++(sh.grs++([(cG nm ps,sa)]++oth)))=(aD.map pg++(fs.map (fg wd)++sh.grs))++(cG nm ps,sa)::oth:=by simp
       have q2:(cG nm ps,sa)::(aD.map pg++(fs.map (fg wd)++(sh.grs++oth)))=(cG nm ps,sa)::((aD.map pg++(fs.map (fg wd)++sh.grs))++oth):=by simp
       rw[q1,q2]
       exact bt.symm
      ·rw[if_neg hz,if_neg hz]
       have q1:aD.map pg++(fs.map (fg wd)++(sh.grs++([(cG nm (ps++[cS oa]),sa),(lB b (fs.map λf=>cS f.2),oa)]++oth)))=(aD.map pg++(fs.map (fg wd)++sh.grs))++([(cG nm (ps++[cS oa]),sa),(lB b (fs.map λf=>cS f.2),oa)]++oth):=by simp
       have q2:(cG nm (ps++[cS oa]),sa)::(lB b (fs.map λf=>cS f.2),oa)::(aD.map pg++(fs.map (fg wd)++(sh.grs++oth)))=[(cG nm (ps++[cS oa]),sa),(lB b (fs.map λf=>cS f.2),oa)]++((aD.map pg++(fs.map (fg wd)++sh.grs))++oth):=by simp
       rw[q1,q2]
       exact nO _ _ _
    ·refine flown .lay e (xs9++news9) h9 tk9 ?_ ⟨_,vX,xs9,news9,sh,rfl,R9,off9,nd9,ht9,?_,?_,hge⟩ hfl
     ·unfold iA
      rw[hrun]
      simp only
      rw[if_pos (hres hlay)]
     ·have:=congrArg (List.take 23) ha9
      rw[List.take_take,List.take_take] at this
      rw[show min 23 24=23 from rfl] at this
      rw[this,ea82,<-e24,List.take_take]
      rfl
     ·refine Hd.right (a:=fs.map (fg wd)) (Hd.perm ?_ H9)
      have q1:(cG nm ps,sa)::(aD.map pg++(fs.map (fg wd)++(sh.grs++oth)))=[(cG nm ps,sa)]++(aD.map pg++(fs.map (fg wd)++(sh.grs++oth))):=rfl
      unfold mV
      have q2:fs.map (fg wd)++(aD.map pg++(sh.grs++(cG nm ps,sa)::oth))=fs.map (fg wd)++(aD.map pg++(sh.grs++([(cG nm ps,sa)]++oth))):=rfl
      rw[q1,q2]
      have p1:([(cG nm ps,sa)]++(aD.map pg++(fs.map (fg wd)++(sh.grs++oth)))).Perm (fs.map (fg wd)++([(cG nm ps,sa)]++(aD.map pg++(sh.grs++oth)))):=(bJ _ (nO _ _ _)).trans (nO _ _ _)
      have p2:([(cG nm ps,sa)]++(aD.map pg++(sh.grs++oth))).Perm (aD.map pg++(sh.grs++([(cG nm ps,sa)]++oth))):=(nO _ _ _).trans (bJ _ (nO _ _ _))
      exact p1.trans (bJ _ p2)
   ·have any8:=fM (pos:=zB) (env:=(eJ (k+10)).env L') (cP (e2 k (dZ {s with eqs:=sh} (aD.map cF) (aD.map cZ) (fs.map λf=>cS f.2)) wd b))
    rw[cR ne8,bn] at any8
    simp only[Bool.false_or] at any8
    rw[<-any8]
    exact iZ _ _
  ·exact fM (pos:=zB) (cP (e2 k (dZ {s with eqs:=sh} (aD.map cF) (aD.map cZ) (fs.map λf=>cS f.2)) wd b))
 ·refine flown er e nw h5' tk5 (by unfold iA;rw[hrun]) ?_ hfl
  refine q58 hF λG' aT aS aB sh' q1 q2 q3 q4 q5 q6 q7 q8=>?_;clear hF
  refine⟨G',aT,aS,aB,sh',q1,q2,q3,q4,q5,?_,q7,q8⟩
  rw[q6,<-e24,List.take_take]
  rfl
end
abbrev oV (k:Nat):Fn:=dY r1031_3 k
def UB (wd:Wd):Loc:=[("nodes",.obj 23),("width",.int wd.n),("collector",.obj 4)]
def q9 (wd:Wd):Loc:=[("nodes",.obj 23),("width",.int wd.n),("collector",.obj 4),("word",.str "")]
noncomputable def nY (x:Str):Loc:=[("word",.str x)]
abbrev wS0:Stmt:=b8 r1031_3.body
abbrev wR:Stmt:=hd2 r1031_3.body
noncomputable def DA:Str:="encode"
noncomputable def DC:Str:="symbol"
noncomputable def DB:Str:="layout"
def Err.word:Err->Str
 | .enc=>DA
 | .sym=>DC
 | .lay=>DB
theorem b6:∃W:Pos×Pos×Pos×Pos×Expr×Expr×Expr×Pos×Pos×Pos×Nat×Pos×Pos×Pos×Pos×Pos×Nat×Pos×Pos×Pos×Pos×Pos×Nat×Pos×Pos×Pos,r1031_3.body=[wS0,.Try [.Expr (.Call (.Attribute (.Name "collector" W.1) "numbers" W.2.1) [W.2.2.2.2.1,W.2.2.2.2.2.1,W.2.2.2.2.2.2.1] [] W.2.2.1) W.2.2.2.1]
   [.ExceptHandler (some (.Name "EncodeError" W.2.2.2.2.2.2.2.2.1)) none [.Assign [.Name "word" W.2.2.2.2.2.2.2.2.2.1] (.Constant (.str DA) W.2.2.2.2.2.2.2.2.2.2.1 W.2.2.2.2.2.2.2.2.2.2.2.1) W.2.2.2.2.2.2.2.2.2.2.2.2.1] W.2.2.2.2.2.2.2.2.2.2.2.2.2.1,.ExceptHandler (some (.Name "SymbolError" W.2.2.2.2.2.2.2.2.2.2.2.2.2.2.1)) none [.Assign [.Name "word" W.2.2.2.2.2.2.2.2.2.2.2.2.2.2.2.1] (.Constant (.str DC) W.2.2.2.2.2.2.2.2.2.2.2.2.2.2.2.2.1 W.2.2.2.2.2.2.2.2.2.2.2.2.2.2.2.2.2.1) W.2.2.2.2.2.2.2.2.2.2.2.2.2.2.2.2.2.2.1] W.2.2.2.2.2.2.2.2.2.2.2.2.2.2.2.2.2.2.2.1,
    .ExceptHandler (some (.Name "LayoutError" W.2.2.2.2.2.2.2.2.2.2.2.2.2.2.2.2.2.2.2.2.1)) none [.Assign [.Name "word" W.2.2.2.2.2.2.2.2.2.2.2.2.2.2.2.2.2.2.2.2.2.1] (.Constant (.str DB) W.2.2.2.2.2.2.2.2.2.2.2.2.2.2.2.2.2.2.2.2.2.2.1 W.2.2.2.2.2.2.2.2.2.2.2.2.2.2.2.2.2.2.2.2.2.2.2.1) W.2.2.2.2.2.2.2.2.2.2.2.2.2.2.2.2.2.2.2.2.2.2.2.2.1] W.2.2.2.2.2.2.2.2.2.2.2.2.2.2.2.2.2.2.2.2.2.2.2.2.2] [] [] W.2.2.2.2.2.2.2.1,wR]/\fN 3 W.2.1 W.2.2.1=true/\
  (∀(k:Nat) (st:List SO) (wd:Wd),E0.E (oV (k+30)) st (q9 wd) (.Name "collector" W.1)=.ret (.obj 4,st))/\
  (∀(k:Nat) (st:List SO) (wd:Wd),oH E0 (oV (k+30)) st (q9 wd) [W.2.2.2.2.1,W.2.2.2.2.2.1,W.2.2.2.2.2.2.1]=.ret ([.int wd.n,.obj 23,.none],st)):=
 ⟨(_,_,_,_,_,_,_,_,_,_,_,_,_,_,_,_,_,_,_,_,_,_,_,_,_,_),rfl,by rfl,λk st wd=>by kernel_rfl,λk st wd=>by kernel_rfl⟩
def O8:Pos:=(az b6).1
def O4:Pos:=(az b6).2.1
def AE:Pos:=(az b6).2.2.1
def aAj:Pos:=(az b6).2.2.2.1
def aAg:Expr:=(az b6).2.2.2.2.1
def aAh:Expr:=(az b6).2.2.2.2.2.1
def aAi:Expr:=(az b6).2.2.2.2.2.2.1
def aAn:Pos:=(az b6).2.2.2.2.2.2.2.1
def aAk:Pos:=(az b6).2.2.2.2.2.2.2.2.1
def O9:Pos:=(az b6).2.2.2.2.2.2.2.2.2.1
def O5:Nat:=(az b6).2.2.2.2.2.2.2.2.2.2.1
def PC:Pos:=(az b6).2.2.2.2.2.2.2.2.2.2.2.1
def PG:Pos:=(az b6).2.2.2.2.2.2.2.2.2.2.2.2.1
def aAo:Pos:=(az b6).2.2.2.2.2.2.2.2.2.2.2.2.2.1
def aAl:Pos:=(az b6).2.2.2.2.2.2.2.2.2.2.2.2.2.2.1
def PA:Pos:=(az b6).2.2.2.2.2.2.2.2.2.2.2.2.2.2.2.1
def O6:Nat:=(az b6).2.2.2.2.2.2.2.2.2.2.2.2.2.2.2.2.1
def PD:Pos:=(az b6).2.2.2.2.2.2.2.2.2.2.2.2.2.2.2.2.2.1
def PH:Pos:=(az b6).2.2.2.2.2.2.2.2.2.2.2.2.2.2.2.2.2.2.1
def aAp:Pos:=(az b6).2.2.2.2.2.2.2.2.2.2.2.2.2.2.2.2.2.2.2.1
def aAm:Pos:=(az b6).2.2.2.2.2.2.2.2.2.2.2.2.2.2.2.2.2.2.2.2.1
def PB:Pos:=(az b6).2.2.2.2.2.2.2.2.2.2.2.2.2.2.2.2.2.2.2.2.2.1
def O7:Nat:=(az b6).2.2.2.2.2.2.2.2.2.2.2.2.2.2.2.2.2.2.2.2.2.2.1
def PF:Pos:=(az b6).2.2.2.2.2.2.2.2.2.2.2.2.2.2.2.2.2.2.2.2.2.2.2.1
def PI:Pos:=(az b6).2.2.2.2.2.2.2.2.2.2.2.2.2.2.2.2.2.2.2.2.2.2.2.2.1
def aAq:Pos:=(az b6).2.2.2.2.2.2.2.2.2.2.2.2.2.2.2.2.2.2.2.2.2.2.2.2.2
theorem KT:r1031_3.body=[wS0,.Try [.Expr (.Call (.Attribute (.Name "collector" O8) "numbers" O4) [aAg,aAh,aAi] [] AE) aAj]
   [.ExceptHandler (some (.Name "EncodeError" aAk)) none [.Assign [.Name "word" O9] (.Constant (.str DA) O5 PC) PG] aAo,.ExceptHandler (some (.Name "SymbolError" aAl)) none [.Assign [.Name "word" PA] (.Constant (.str DC) O6 PD) PH] aAp,
    .ExceptHandler (some (.Name "LayoutError" aAm)) none [.Assign [.Name "word" PB] (.Constant (.str DB) O7 PF) PI] aAq] [] [] aAn,wR]/\fN 3 O4 AE=true/\
  (∀(k:Nat) (st:List SO) (wd:Wd),E0.E (oV (k+30)) st (q9 wd) (.Name "collector" O8)=.ret (.obj 4,st))/\
  (∀(k:Nat) (st:List SO) (wd:Wd),oH E0 (oV (k+30)) st (q9 wd) [aAg,aAh,aAi]=.ret ([.int wd.n,.obj 23,.none],st)):=Classical.choose_spec b6
theorem rW0 (k:Nat) (st:List SO) (wd:Wd):E0.S (oV (k+30)) st (UB wd) [wS0]=.ret (.next,st,q9 wd):=by kernel_rfl
theorem rWR (k:Nat) (st:List SO) (x:Str):E0.S (oV (k+30)) st (nY x) [wR]=.ret (.ret (.str x),st,nY x):=by kernel_rfl
theorem gM4 (s:LS) (aE aG:List Value):wL tb (hY s aE aG) (.obj 4) "numbers"=some (.lit (.ref 942),[.obj 4]):=by kernel_rfl
theorem L0 (w:World):keepIn (K w.params) (.ref 942)=true:=by kernel_rfl
theorem NK:∀x∈r1031_3.scope.names,x.2≠.cell:=by decide +kernel
theorem RP (w:World):nsIn (K w.params) mainGlobals "EncodeError"=some (some (.ref 71)):=by kernel_rfl
theorem Y7 (w:World):nsIn (K w.params) mainGlobals "SymbolError"=some (some (.ref 83)):=by kernel_rfl
theorem aC6 (w:World):nsIn (K w.params) mainGlobals "LayoutError"=some (some (.ref 95)):=by kernel_rfl
noncomputable def bmE:List Value:=[.ref 46,.type "Exception",.type "BaseException",.type "object"]
theorem QH (w:World):Mine.X.excIn (K w.params) 71 bmE:=⟨((K w.params).lookup 71).getD default,by kernel_rfl,by kernel_rfl⟩
theorem QI (w:World):Mine.X.excIn (K w.params) 83 bmE:=⟨((K w.params).lookup 83).getD default,by kernel_rfl,by kernel_rfl⟩
theorem QJ (w:World):Mine.X.excIn (K w.params) 95 bmE:=⟨((K w.params).lookup 95).getD default,by kernel_rfl,by kernel_rfl⟩
theorem D0 {G2:Addr->Obj} {a:Addr} {so:SO} {o:Obj} (hp:m5 so=true) (h:RO w G ρ a so o):RO w G2 ρ a so o:=by
 cases so<;>first|exact h|exact d9 hp
theorem Now.ghost {G2:Addr->Obj} {h:Heap} (n:Now w G aY L loc st mm xs aA h) (hp:st.all m5=true):Now w G2 aY L loc st mm xs aA h:=
 ⟨n.F,n.NX,n.CX,n.off,⟨n.R.len,n.R.nd,λi so hi=>by
  refine b7 (n.R.at_ i so hi) λp h1 h2=>?_
  exact⟨p,h1,D0 (bO.mp hp so (bD hi)) h2⟩⟩,n.V⟩
theorem xM:gN st (List.range k)=gN (st.take k) (List.range k):=by
 unfold gN
 rw[Bool.eq_iff_iff]
 simp only[bG,bO]
 constructor
 ·rintro⟨h1,h2⟩
  refine⟨h1,λi hi=>?_⟩
  have:=h2 i hi
  rw[List.getElem?_take,if_pos (List.mem_range.mp hi)]
  exact this
 ·rintro⟨h1,h2⟩
  refine⟨h1,λi hi=>?_⟩
  have:=h2 i hi
  rw[List.getElem?_take,if_pos (List.mem_range.mp hi)] at this
  exact this
def cH (s:LS) (aE:List Value):List SO:=s.sT++[.list (aE.map .lit)]
theorem XV (s:LS) (aE:List Value):dC (cH s aE) 23 []=true/\(cH s aE).all m5=true:=⟨by kernel_rfl,by kernel_rfl⟩
theorem j7:dC st k []=dC (st.take k) k []:=by
 unfold dC
 rw[xM]
 rfl
theorem eE (s:LS) (aE:List Value) (ρ:List Addr):(cH s aE).map (cO ρ (List.range 23))=cH s aE:=by
 unfold cH
 rw[bH,LS.sel s (by omega)]
 congr 1
 simp only[bL,bf]
 have a1:cO ρ (List.range 23) (.list (aE.map .lit))=.list (aE.map .lit):=by
  show SO.list _=_
  rw[cY]
 rw[a1]
section
variable {w:World}
theorem vV {g G:Heap} (C:Fx w fn A outer aZ base g L p loose aC mg mb) {m:Str->Option Value} {e:Addr} {er:Err} {h1 h2 h3 u1 u2 u3:Pos} {b1 b2 b3:Stmt}
  (k1:(fn.fenv L).kindOf "EncodeError"=some .globalImplicit) (k2:(fn.fenv L).kindOf "SymbolError"=some .globalImplicit) (k3:(fn.fenv L).kindOf "LayoutError"=some .globalImplicit)
  (F:Fr g L.a G m) (R:Rsd base G (fn.fenv L::outer) e er.cls aA s.heap) (hsm:G.UpToSlots s.heap) (XB:(K w.params).In base) (TB:Top p loose aC mg mb base) (hE:PassesOwnAt (model rw1.prog w) (A.mark (some (.ref e))) A (fn.fenv L) E)
  (k:∀h' g',KtsTurn (outer.filterMap (·.frame)) g g'->Fr g' L.a h' m->Below aZ base outer g'->News g' L.a h' aA->
   wpAny (model rw1.prog w) (A.mark (some (.ref e))) (execs [match er with| .enc=>b1| .sym=>b2| .lay=>b3] (fn.fenv L)) Q E {s with heap:=h'}):
  wpAny (model rw1.prog w) A (noteFrame (.ref e) (fn.fenv L)) (λ_ s₂=>wpAny (model rw1.prog w) A (setFlight (.ref e) none) (λ_ s₃=>wpAny (model rw1.prog w) A (handleBy (.ref e) (fn.fenv L) [.ExceptHandler (some (.Name "EncodeError" h1)) none [b1] u1,.ExceptHandler (some (.Name "SymbolError" h2)) none [b2] u2,.ExceptHandler (some (.Name "LayoutError" h3)) none [b3] u3]) Q E s₃) E s₂) E s:=by
 refine LG C.hA rfl R hsm λh' R' hsm'=>?_
 cases er with
 |enc=>exact kW (s:={s with heap:=h'}) C.B C.hA rfl C.hk rfl F R' hsm' XB TB (RP w) (QH w) (by decide +kernel) k1 (by decide) hE k
 |sym=>
  refine mS (s:={s with heap:=h'}) C.B C.hA rfl C.hk rfl F R' hsm' XB TB (RP w) (QI w) (QH w) (by decide +kernel) (by decide +kernel) k1 (by decide) ?_
  exact kW (s:={s with heap:=h'}) C.B C.hA rfl C.hk rfl F R' hsm' XB TB (Y7 w) (QI w) (by decide +kernel) k2 (by decide) hE k
 |lay=>
  refine mS (s:={s with heap:=h'}) C.B C.hA rfl C.hk rfl F R' hsm' XB TB (RP w) (QJ w) (QH w) (by decide +kernel) (by decide +kernel) k1 (by decide) ?_
  refine mS (s:={s with heap:=h'}) C.B C.hA rfl C.hk rfl F R' hsm' XB TB (Y7 w) (QJ w) (QI w) (by decide +kernel) (by decide +kernel) k2 (by decide) ?_
  exact kW (s:={s with heap:=h'}) C.B C.hA rfl C.hk rfl F R' hsm' XB TB (aC6 w) (QJ w) (by decide +kernel) k3 (by decide) hE k
theorem DQ {k:Nat} (hdn:fn.dn=k+40) (ac:fn.cs=none) (C:Fx w fn A [] aZ base aY L p loose aC mg mb) (XB:(K w.params).In base) (TB:Top p loose aC mg mb base)
  {s0:Shared} {loc2:Loc} {s:LS} {wd:Wd} {aD:List (PS×List Addr)} {aF:Bool} {nm:Str} {ps:List Value} {sa:List Addr} {oth:List Gr} {R:Result->Shared->Prop}
  (n:Now w G aY L loc (hY s (aD.map cF) (aD.map cZ)) mm X aA s0.heap) (ae:(adr X).Nodup) (H:Hd w X (mV aD ((cG nm ps,sa)::oth) s.eqs)) (ah:nm=eU aF) (ag:s.sec=cS sa) (am:ps.length+1<=100) (h5:aD.length<=5)
  (hv:RVs (adr aA) [.obj 4,.int wd.n,.obj 23] us) (V2:∀y v,lk loc2 y=some v->VL L mm ((adr aA).take 23) y v)
  (ao:∀b (fs:List (Fld×List Addr)) sh (oa:List Addr) aS aB h' aU t,iA wd aF (aD.map (·.1))=.ok (b,fs.map (·.1))->adr aB=adr aA->Now w G aY L loc (hY {s with eqs:=sh} (aD.map cF) (aD.map cZ)) mm aS aB h'->(adr aS).Nodup->
   Hd w aS (aD.map pg++(fs.map (fg wd)++(sh.grs++(AZ nm ps sa b (fs.map λf=>cS f.2) oa++oth))))->ShGe s.eqs sh->(∀q∈aD.map (·.1),needs sh q)->R (.ok (.ret (.str "" t))) {s0 with heap:=h',toks:=aU})
  (ap:∀er sh aS aB h' aU t,iA wd aF (aD.map (·.1))=.error er->adr aB=(adr aA).take 23->Now w G aY L loc2 (cH {s with eqs:=sh} (aD.map cF)) mm aS aB h'->(adr aS).Nodup->
   Hd w aS (mV aD ((cG nm ps,sa)::oth) sh)->ShGe s.eqs sh->R (.ok (.ret (.str er.word t))) {s0 with heap:=h',toks:=aU}):
  codeAny (model rw1.prog w) A (.call (.ref 1031) ⟨us,[]⟩) R s0:=by
 have hL:=C.c0 ac
 have hd:=C.hd
 have hu:=C.hu
 rw[hdn] at hd hu
 have hnl:aA.length=24:=n.R.len
 refine E4 (prog:=rw1.prog) (k:=k+30) (qO w) NK C.B C.X C.T C.hA rfl C.hk C.hh (by omega) (by omega) n hv rfl ?_
 intro g La h1 aW aw FG hLm C' n1 Q' E' hQ PE PE2
 have n1:Now w G g ⟨La,[],none⟩ (UB wd) (hY s (aD.map cF) (aD.map cZ)) aw X aA h1:=n1
 refine zO KT λhB o1 e1 e2=>?_
 rw[hB]
 show wpAny _ _ (execs ([wS0]++[_,wR]) _) _ _ _
 refine dS ?_
 refine(I0 w).Sq (oV (k+30)) (hY s (aD.map cF) (aD.map cZ)) (UB wd) [wS0] C' rfl (f:=.next) (aT:=hY s (aD.map cF) (aD.map cZ)) (loc':=q9 wd) (by rw[rW0];exact rfl) PE n1 λfl aQ aJ h2 aX x2 n2 hf=>?_
 cases hf
 have ea2:adr aJ=adr aA:=cM x2 n1.R n2.R
 have last:∀(x:Str) (g':Heap) (G5:Addr->Obj) (st5:List SO) (mm5:Str->Option Value) (xs5 aM:dJ) (h5:Heap) (tk5:Nat),KtsTurn ([fn.fenv L].filterMap (·.frame)) g g'->Fx w (oV (k+30)) (A.deeper ((oV (k+30)).fenv ⟨La,[],none⟩)) [fn.fenv L] A base g' ⟨La,[],none⟩ p loose aC mg mb->Now w G5 g' ⟨La,[],none⟩ (nY x) st5 mm5 xs5 aM h5->
   (∀h6 tk6 aN t,adr aN=adr aM->Rep w G5 st5 aN->(∀p∈xs5,∀q∈aN,p.1≠q.1)->Fr aY L.a h6 mm->News aY L.a h6 (xs5++aN)->R (.ok (.ret (.str x t))) {s0 with heap:=h6,toks:=tk6})->
   wpAny (model rw1.prog w) (A.deeper ((oV (k+30)).fenv ⟨La,[],none⟩)) (execs [wR] ((oV (k+30)).fenv ⟨La,[],none⟩))
    Q'
    E' {s0 with heap:=h5,toks:=tk5}:=by
  intro x g' G5 st5 mm5 xs5 aM h5 tk5 T5 C5 n5 kk
  refine(I0 w).Sq (oV (k+30)) st5 (nY x) [wR] C5 rfl (f:=.ret (.str x)) (aT:=st5) (loc':=nY x) (by rw[rWR];exact rfl) PE n5 λfl aR aN h6 tk6 x6 n6 hf=>?_
  refine b7 hf λu z1 z2=>?_;clear hf;subst z1
  obtain⟨tk,rfl⟩:=z2
  exact hQ _ _ ⟨g',La,aR,xs5++aN,T5,n6.F,n6.NX,λF7 N7=>kk h6 tk6 aN tk (cM x6 n5.R n6.R) n6.R n6.off F7 N7⟩
 refine wpAny_execs_cons (wpAny_Try_except (wpAny_execs_cons (wpAny_Expr_any (MethodCall_ (pl:=_) ((I0 w).E (oV (k+30)) (hY s (aD.map cF) (aD.map cZ)) (q9 wd) _ C' (cP (e1 k _ wd)) n2 λv st3 u3 aK h3 tk3 af x3 n3 hv3=>?_) (rW ?_ o1 (iP rfl _ _))) (l8 rfl C'.hk) rfl)))
 ·first|exact b5 af|(refine pI af λe1 e2=>?_;clear af;subst e1 e2)
  refine lZ (K9 w) (gM4 s _ _) C'.X n3 hv3 λuf us4 tk4 hf hus=>?_
  obtain rfl:uf=.ref 942:=hf
  obtain⟨ne5,_⟩:=fB (cP (e2 k (hY s (aD.map cF) (aD.map cZ)) wd))
  refine callWith_K C'.X (L0 w) (Mine.R.sA (I0 w) C' (cP (e2 k _ wd)) n3 λvs st5 us5 aM h5' tk5 af x5 n5 hvs=>⟨C'.X.keeps n5.F.keep,?_⟩) (cR ne5) ?_
  ·first|exact b5 af|(refine pI af λe1 e2=>?_;clear af;(rw[e1] at hvs;rw[e2] at n5))
   have ea5:adr aM=adr aA:=(cM x5 n3.R n5.R).trans ((cM x3 n2.R n3.R).trans ea2)
   refine wpAny_call (BD (k:=k+10) rfl rfl C' (s0:={s0 with heap:=h5',toks:=tk5}) n5 ae H ah ag am h5 ((hus.ext x5).app hvs) (λb fs sh oa xs6 aN h6 tk6 hres e6 n6 nd6 H6 hge hneed=>?_) λer e nw h6 tk6 g₂ hres hF F6 R6 hsm6=>?_)
   ·refine wpAny_execs_nil (wpAny_execs_nil ?_)
    have n7:Now w G g ⟨La,[],none⟩ (nY "") (hY {s with eqs:=sh} (aD.map cF) (aD.map cZ)) aQ xs6 aN h6:=n6.reloc λy v hy=>by
     have hy':(match seq "word" y with|true=>some (SV.str "")|false=>none)=some v:=hy
     cases hs:seq "word" y with
     |false=>rw[hs] at hy';exact b5 hy'
     |true=>
      rw[hs] at hy'
      replace hy':=oS hy';subst hy'
      have:=dI hs
      subst this
      rfl
    refine last "" g G _ aQ xs6 aN h6 tk6 .refl C' n7 λh8 tk8 aP t e8 R8 off8 F8 N8=>?_
    have ea8:adr aP=adr aA:=e8.trans (e6.trans ea5)
    exact ao b fs sh oa xs6 aP h8 tk8 t hres ea8 ⟨F8,N8,FL.none_cx hL,off8,R8,λy v hy=>by rw[ea8];exact n.V y v hy⟩ nd6 H6 hge hneed
   ·refine vV C' (s:={s0 with heap:=h6,toks:=tk6}) rfl rfl rfl F6 R6 hsm6 XB TB (PE2 e) λh7 g7 T7 F7 B7 N7=>?_
    refine q58 hF λG3 st3 xs3 nw3 sh z1 R3 off3 nd3 t23 a23 H3 ge3=>?_;clear hF;subst z1
    have n7:Now w G3 g7 ⟨La,[],none⟩ tG st3 aQ xs3 nw3 h7:=⟨F7,N7,(λ_ h=>by exact b5 h),off3,R3,(λ_ _ h=>by exact b5 h)⟩
    have C7:Fx w (oV (k+30)) (A.deeper ((oV (k+30)).fenv ⟨La,[],none⟩)) [fn.fenv L] A base g7 ⟨La,[],none⟩ p loose aC mg mb:=⟨B7,XB.keeps B7.stays,TB.keeps B7.stays,C'.hA,rfl,C'.hk,C'.hh,C'.hd,C'.hu⟩
    have asg:∀(x:Str) (q r t:Pos) (j:Nat),x=er.word->wpAny (model rw1.prog w) ((A.deeper ((oV (k+30)).fenv ⟨La,[],none⟩)).mark (some (.ref e))) (exec (.Assign [.Name "word" q] (.Constant (.str x) j r) t) ((oV (k+30)).env ⟨La,[],none⟩))
      (λf s'=>match f with
       | .next=>wpAny (model rw1.prog w) (A.deeper ((oV (k+30)).fenv ⟨La,[],none⟩)) (execs [wR] ((oV (k+30)).fenv ⟨La,[],none⟩)) Q'
         E' s'
       |_=>False) E' {s0 with heap:=h7,toks:=tk6}:=by
     intro x q r t j hx
     refine wpAny_Assign_Name (Calls.Constant_str ?_) rfl
     refine gF (fn:=oV (k+30)) (x:="word") rfl (by rfl) C'.hk rfl (s:={s0 with heap:=h7,toks:=tk6+1}) n7 (v:=.str x) ⟨_,rfl⟩ λmm8 h8 tk8 n8=>?_
     have n8:Now w G3 g7 ⟨La,[],none⟩ (nY x) st3 mm8 xs3 nw3 h8:=n8
     have ok3:dC st3 23 []=true:=by rw[j7,t23];exact(XV _ _).1
     refine HZ (d7 n8 nd3 (k:=23) (pis:=[]) ok3 rfl H3) λxs9 n9 nd9 _ H9 ea9 _=>?_
     have hl3:23<=st3.length:=by
      have:=congrArg List.length t23
      rw[List.length_take] at this
      have h2:(({s with eqs:=sh}:LS).sT++[SO.list ((aD.map cF).map .lit)]).length=23:=rfl
      rw[h2] at this
      omega
     rw[selSt_take hl3,t23] at n9
     have n9:Now w G3 g7 ⟨La,[],none⟩ (nY x) (cH {s with eqs:=sh} (aD.map cF)) mm8 xs9 (eD nw3 (List.range 23)) h8:=by
      have e:=eE {s with eqs:=sh} (aD.map cF) (adr nw3)
      unfold cH at e
      rw[e] at n9
      exact n9
     have n10:=Now.ghost (G2:=G) n9 (XV _ _).2
     have ea10:adr (eD nw3 (List.range 23))=(adr aA).take 23:=by
      rw[ea9,take_getD .rfl' (by simp only[adr,bF];rw[R3.len];exact hl3),a23,ea5]
     refine last x g7 G _ mm8 xs9 _ h8 tk8 T7 C7 n10 λh11 tk11 news11 t11 e11 R11 off11 F11 N11=>?_
     rw[hx]
     have ea11:=e11.trans ea10
     refine ap er sh xs9 news11 h11 tk11 t11 hres ea11 ⟨F11,N11,FL.none_cx hL,off11,R11,λy v hy=>by rw[ea11];exact V2 y v hy⟩ nd9 ?_ ge3
     simpa using H9
    have fin:∀{Q:Flow->Shared->Prop} {st:Stmt},wpAny (model rw1.prog w) ((A.deeper ((oV (k+30)).fenv ⟨La,[],none⟩)).mark (some (.ref e))) (exec st ((oV (k+30)).fenv ⟨La,[],none⟩)) Q E' {s0 with heap:=h7,toks:=tk6}->(∀f s',Q f s'->f=.next)->
      wpAny (model rw1.prog w) ((A.deeper ((oV (k+30)).fenv ⟨La,[],none⟩)).mark (some (.ref e))) (execs [st] ((oV (k+30)).fenv ⟨La,[],none⟩)) Q E' {s0 with heap:=h7,toks:=tk6}:=by
     intro Q st h hq
     refine wpAny_execs_cons (wpAny_mono h (λf s' hf=>?_) λ_ _ x=>x)
     have:=hq f s' hf
     subst this
     exact wpAny_execs_nil hf
    cases er with
    |enc=>exact wpAny_mono (fin (asg DA O9 PC PG O5 rfl) (λf s' hf=>by cases f<;>first|rfl|exact hf.elim)) (λf s' hf=>by cases f<;>first|exact hf|exact hf.elim) λ_ _ x=>x
    |sym=>exact wpAny_mono (fin (asg DC PA PD PH O6 rfl) (λf s' hf=>by cases f<;>first|rfl|exact hf.elim)) (λf s' hf=>by cases f<;>first|exact hf|exact hf.elim) λ_ _ x=>x
    |lay=>exact wpAny_mono (fin (asg DB PB PF PI O7 rfl) (λf s' hf=>by cases f<;>first|rfl|exact hf.elim)) (λf s' hf=>by cases f<;>first|exact hf|exact hf.elim) λ_ _ x=>x
  ·have any5:=fM (pos:=AE) (env:=(oV (k+30)).env ⟨La,[],none⟩) (cP (e2 k (hY s (aD.map cF) (aD.map cZ)) wd))
   rw[cR ne5,bn] at any5
   simp only[Bool.false_or] at any5
   rw[<-any5]
   exact iZ _ _
 ·exact fM (pos:=AE) (cP (e2 k (hY s (aD.map cF) (aD.map cZ)) wd))
end
abbrev f6 (k:Nat):Fn:=dY r1024_3 k
def wE:Stmt:=l5 r1024_3.body
def uE:List Stmt:=match wE with| .For _ _ b _ _=>b|_=>[]
def QD:Expr:=match wE with| .For t _ _ _ _=>t|_=>.Constant .none 0 default
def E7:Expr:=match wE with| .For _ i _ _ _=>i|_=>.Constant .none 0 default
def uF:Stmt:=b8 uE
def pT:Stmt:=b8 (wN uF)
def rL:Stmt:=l5 (wN uF)
def kY:Stmt:=b8 (ifO uF)
def uG:Stmt:=b8 (wN pT)
def pU:Stmt:=b8 (wN kY)
def jJ:List Stmt:=ifO kY
theorem LL:∃pos,wE=.For QD E7 uE [] pos:=⟨_,rfl⟩
theorem E6:uE=[.If (fQ uF) [.If (fQ pT) [uG] [] (oQ pT),rL] [.If (fQ kY) [pU] jJ (oQ kY)] (oQ uF)]:=by kernel_rfl
def gR (s:LS) (ffs hs:List Value):List SO:=s.sT++[.fz,.listB 5 (ffs.map .lit),.list (hs.map .lit)]
def fA (wd:Wd) (aF:Bool) (b:Array UInt8) (more:Loc):Loc:=("parts",.obj 22)::("width",.int wd.n)::("is_empty",.bool aF)::("octets",.bytes 40 b)::("fields",.obj 23)::("hidden",.obj 24)::more
def dT (wd:Wd) (aF:Bool) (b:Array UInt8) (c:Int) (p m:Str):Loc:=fA wd aF b [("worth",.int c),("plus",.str p),("minus",.str m)]
noncomputable def wF:List Str:=["parts","width","is_empty","octets","fields","hidden","worth","plus","minus"]
def FI (wd:Wd) (aF:Bool) (b:Array UInt8) (c:Int) (p m:Str):List SV:=[.obj 22,.int wd.n,.bool aF,.bytes 40 b,.obj 23,.obj 24,.int c,.str p,.str m]
noncomputable def eA:List Str:=["parts","width","is_empty","octets","fields","hidden"]
def gI (wd:Wd) (aF:Bool) (m:Nat) (b:Array UInt8):List SV:=[.obj 22,.int wd.n,.bool aF,.bytes m b,.obj 23,.obj 24]
theorem E8 (k:Nat) (st:List SO) (wd:Wd) (aF:Bool) (b:Array UInt8) (l:Loc):E0.E (f6 k) st (fA wd aF b l) E7=.ret (.obj 22,st):=by kernel_rfl
theorem FA:d5 E7=true:=by kernel_rfl
theorem FH (k:Nat) (s:LS) (ffs hs:List Value) (wd:Wd) (aF:Bool) (b:Array UInt8) (q:PS):mQ (f6 k) (gR s ffs hs++q.grp.map (lG 25)) (fA wd aF b []) QD (.val (.obj 25))=some (gR s ffs hs++q.grp.map (lG 25),fA wd aF b [("node",.obj 26),("worth",.int q.worth),("plus",.str q.plus),("minus",.str q.minus)]):=by
 cases q<;>kernel_rfl
theorem rD0 (ρ:List Addr) (s:LS) (ffs hs:List Value) (wd:Wd) (aF:Bool) (b:Array UInt8) (q:PS) (k:Nat):
  cX (lf ρ 25 [List.range' 25 q.len] wF) (E0.S (f6 (k+10)) (gR s ffs hs++q.grp.map (lG 25)) (fA wd aF b [("node",.obj 26),("worth",.int q.worth),("plus",.str q.plus),("minus",.str q.minus)]) [])=
   .ret (some ⟨.next,gR s ffs hs,[q.grp],(FI wd aF b q.worth q.plus q.minus).map some⟩):=by
 cases q<;>kernel_rfl
theorem rD1 (s:LS) (ffs hs:List Value) (wd:Wd) (aF:Bool) (b:Array UInt8) (c:Int) (q:PS) (k:Nat):E0.T (f6 (k+10)) (gR s ffs hs) (dT wd aF b c q.plus q.minus) (fQ uF)=.ret (match q with| .num _=>true| .neg _=>true|_=>false,gR s ffs hs):=by
 cases q<;>kernel_rfl
theorem rD2 (s:LS) (ffs hs:List Value) (wd:Wd) (aF:Bool) (b:Array UInt8) (c:Int) (k:Nat):E1.T (f6 (k+10)) (gR s ffs hs) (dT wd aF b c "" "") (fQ pT)=.br (decide (wd.lo<=c)) (.ret (!decide (c<wd.hi+1),gR s ffs hs)) (.ret (true,gR s ffs hs)):=by
 cases wd<;>kernel_rfl
theorem rD3 (s:LS) (ffs hs:List Value) (wd:Wd) (aF:Bool) (b:Array UInt8) (c:Int) (q:PS) (k:Nat):E0.T (f6 (k+10)) (gR s ffs hs) (dT wd aF b c q.plus q.minus) (fQ kY)=.ret (match q with| .num _=>true| .neg _=>true| .bad _=>true|_=>false,gR s ffs hs):=by
 cases q<;>kernel_rfl
theorem rD4 (st:List SO) (wd:Wd) (aF:Bool) (b:Array UInt8) (c:Int) (p m:Str) (k:Nat):E0.S (f6 (k+10)) st (dT wd aF b c p m) [uG]=.ret (.ret (.str DA),st,dT wd aF b c p m):=by kernel_rfl
theorem rD5 (st:List SO) (wd:Wd) (aF:Bool) (b:Array UInt8) (c:Int) (p m:Str) (k:Nat):E0.S (f6 (k+10)) st (dT wd aF b c p m) [pU]=.ret (.ret (.str DC),st,dT wd aF b c p m):=by kernel_rfl
noncomputable def s6:Nat->Nat->Int->List Int
 |_,0,_=>[]
 |i,n+1,r=>Int.fmod (Int.fdiv r (256 ^ i)) 256::s6 (i+1) n r
theorem rDB (ρ:List Addr) (s:LS) (ffs hs:List Value) (wd:Wd) (aF:Bool) (c:Int) (b:Array UInt8) (k:Nat):
  cX (lf ρ 25 [] eA) (E1.S (f6 (k+10)) (gR s ffs hs) (dT wd aF b c "" "") [rL])=
   .br (xD (s6 0 wd.n (Int.fmod c (wd.hi+1)))) (.ret (some ⟨.next,gR s ffs hs,[],(gI wd aF (40+wd.n) (b++gW (s6 0 wd.n (Int.fmod c (wd.hi+1))))).map some⟩)) .no:=by
 cases wd<;>kernel_rfl
noncomputable def XR (nm p m:Str):List SO:=[.tup [.str nm,.obj 1],.tup [.int 0,.str p,.str m]]
def hF:List SO:=XR kI cV cC
def hR:List SO:=XR kJ cC cV
def LO (wd:Wd) (f:Fld):List SO:=[.tup [.int f.at_,.int wd.n,.str f.nm,.int f.c,.str "abs"]]
def Sh.hl:Sh->List Value
 | .n=>[]
 | .f a=>[cS a]
 | .r b=>[cS b]
 | .fr a b=>[cS a,cS b]
 | .rf b a=>[cS b,cS a]
def Sh.hgs:Sh->List Gr
 | .n=>[]
 | .f a=>[(hF,a)]
 | .r b=>[(hR,b)]
 | .fr a b=>[(hF,a),(hR,b)]
 | .rf b a=>[(hR,b),(hF,a)]
noncomputable def Sh.hin:Sh->List SV
 | .n=>[]
 | .f _=>[.obj 25]
 | .r _=>[.obj 25]
 | .fr _ _=>[.obj 25,.obj 27]
 | .rf _ _=>[.obj 25,.obj 27]
def Sh.hex:Sh->List SO
 | .n=>[]
 | .f _=>hF.map (lG 25)
 | .r _=>hR.map (lG 25)
 | .fr _ _=>hF.map (lG 25)++hR.map (lG 27)
 | .rf _ _=>hR.map (lG 25)++hF.map (lG 27)
noncomputable def Sh.hpi:Sh->List (List Nat)
 | .n=>[]
 | .f _=>[[25,26]]
 | .r _=>[[25,26]]
 | .fr _ _=>[[25,26],[27,28]]
 | .rf _ _=>[[25,26],[27,28]]
def Sh.hg1:Sh->List (List SO)
 | .n=>[]
 | .f _=>[hF]
 | .r _=>[hR]
 | .fr _ _=>[hF,hR]
 | .rf _ _=>[hR,hF]
def AU (s:LS) (ffs:List Value) (sh:Sh):List SO:=s.sT++[.fz,.listB 5 (ffs.map .lit),.list sh.hin]++sh.hex
def wG (s:LS) (ffs:List Value) (j:Nat) (hl:List SV):List SO:=s.sT++[.fz,.listB 6 (ffs.map .lit++[.obj j]),.list hl]
theorem rDA (ρ:List Addr) (s:LS) (ffs hs:List Value) (wd:Wd) (aF:Bool) (c:Int) (b:Array UInt8) (k:Nat):
  cX (lf ρ 25 [[25]] eA) (E0.S (f6 (k+10)) (gR s ffs hs) (dT wd aF b c cV "") jJ)=
   .br true (.ret (some ⟨.next,wG s ffs 25 (hs.map .lit),[LO wd ⟨b.size,cV,c⟩],(gI wd aF (40+wd.n) (b++cI wd)).map some⟩)) .no:=by
 cases wd<;>kernel_rfl
noncomputable def Sh.nF:Sh->Nat×List Nat
 | .n=>(29,[28,27])
 | .f _=>(29,[])
 | .r _=>(31,[30,29])
 | .fr _ _=>(31,[])
 | .rf _ _=>(31,[])
noncomputable def Sh.nR:Sh->Nat×List Nat
 | .n=>(29,[28,27])
 | .f _=>(31,[30,29])
 | .r _=>(29,[])
 | .fr _ _=>(31,[])
 | .rf _ _=>(31,[])
noncomputable def zK:List Nat->List (List Nat)
 |[]=>[]
 |l=>[l]
noncomputable def zJ:List Nat->List SV
 |[]=>[]
 |i::_=>[.obj i]
noncomputable def ML (g:List SO):List Nat->List (List SO)
 |[]=>[]
 |_=>[g]
theorem rDF (ρ:List Addr) (s:LS) (sh:Sh) (ffs:List Value) (wd:Wd) (aF:Bool) (c:Int) (b:Array UInt8) (k:Nat):
  cX (lf ρ 25 (sh.hpi++([sh.nF.1]::zK sh.nF.2)) eA) (E0.S (f6 (k+10)) (AU s ffs sh) (dT wd aF b c cV cC) jJ)=
   .br true (.ret (some ⟨.next,wG s ffs sh.nF.1 (sh.hin++zJ sh.nF.2),sh.hg1++(LO wd ⟨b.size,kI,c⟩::ML hF sh.nF.2),(gI wd aF (40+wd.n) (b++cI wd)).map some⟩)) .no:=by
 cases wd<;>cases sh<;>kernel_rfl
theorem rDR (ρ:List Addr) (s:LS) (sh:Sh) (ffs:List Value) (wd:Wd) (aF:Bool) (c:Int) (b:Array UInt8) (k:Nat):
  cX (lf ρ 25 (sh.hpi++([sh.nR.1]::zK sh.nR.2)) eA) (E0.S (f6 (k+10)) (AU s ffs sh) (dT wd aF b c cC cV) jJ)=
   .br true (.ret (some ⟨.next,wG s ffs sh.nR.1 (sh.hin++zJ sh.nR.2),sh.hg1++(LO wd ⟨b.size,kJ,c⟩::ML hR sh.nR.2),(gI wd aF (40+wd.n) (b++cI wd)).map some⟩)) .no:=by
 cases wd<;>cases sh<;>kernel_rfl
theorem t6 (x:Int):Builtin.bitAnd x 18446744073709551615=x % 18446744073709551616:=by
 cases x with
 |ofNat n=>
  rw[bitAnd_pp (x:=Int.ofNat n) (Int.natCast_nonneg n) (by decide)]
  exact congrArg Int.ofNat (Nat.and_two_pow_sub_one_eq_mod n 64)
 |negSucc n=>
  rw[bitAnd_np (x:=Int.negSucc n) (Int.not_le.mpr (Int.negSucc_lt_zero n)) (by decide)]
  have h:(18446744073709551615:Int).toNat &&&(Builtin.bitNot (.negSucc n)).toNat=n % 18446744073709551616:=by
   rw[Nat.and_comm]
   exact(Nat.and_two_pow_sub_one_eq_mod _ 64).trans (by unfold Builtin.bitNot;rw[show(-Int.negSucc n-1).toNat=n from by simp])
  rw[h,Int.negSucc_emod n (by decide)]
  rfl
theorem QO (wd:Wd) (c:Int):Builtin.bitAnd c wd.hi=Int.fmod c (wd.hi+1):=by
 rw[Int.fmod_eq_emod_of_nonneg _ (by cases wd<;>decide)]
 cases wd with
 |b=>exact bitAnd_m8 c
 |w=>exact bitAnd_m16 c
 |l=>exact bitAnd_m32 c
 |q=>exact t6 c
theorem uR:∀(n i:Nat) (r:Int),s6 i n r=rC n (Int.fdiv r (256 ^ i))
 |0,_,_=>rfl
 |n+1,i,r=>by
  show Int.fmod (Int.fdiv r (256 ^ i)) 256::s6 (i+1) n r=Builtin.bitAnd (Int.fdiv r (256 ^ i)) 255::rC n (Int.fdiv (Int.fdiv r (256 ^ i)) 256)
  have hp:(0:Int)<=256 ^ i:=Int.pow_nonneg (by decide)
  rw[uR n (i+1) r,bitAnd_m8,Int.fmod_eq_emod_of_nonneg _ (by decide),Int.fdiv_eq_ediv_of_nonneg r hp,Int.fdiv_eq_ediv_of_nonneg _ (show(0:Int)<=256 by decide),Int.fdiv_eq_ediv_of_nonneg r (Int.pow_nonneg (show(0:Int)<=256 by decide)),Int.pow_succ,Int.ediv_ediv_of_nonneg hp]
theorem yZ (wd:Wd) (c:Int):s6 0 wd.n (Int.fmod c (wd.hi+1))=rC wd.n (Builtin.bitAnd c wd.hi):=by
 rw[uR,QO]
 congr 1
 show Int.fdiv _ 1=_
 exact Int.fdiv_one _
theorem L5 (wd:Wd) (c:Int):gW (s6 0 wd.n (Int.fmod c (wd.hi+1)))=cQ wd c:=by
 rw[yZ]
 rfl
theorem BI (wd:Wd) (c:Int):xD (s6 0 wd.n (Int.fmod c (wd.hi+1)))=true:=by
 rw[yZ]
 exact m4 _ _
theorem FU (wd:Wd) (c:Int):(decide (wd.lo<=c)&&decide (c<wd.hi+1))=iM wd c:=by
 unfold iM
 have:decide (c<wd.hi+1)=decide (c<=wd.hi):=decide_eq_decide.mpr (by omega)
 rw[this]
section
variable {w:World}
theorem iY {aA g:dJ} {as:List Addr} (eg:adr g=as) (h:0<g.length):(adr (aA++g))[aA.length]? =some (as.getD 0 0):=by
 subst eg
 simp only[adr,bH]
 rw[bV (by simp)]
 simp[bC,bR h]
theorem mU (hL:L.c=none) {s:LS} {o22:SO} {fs:List SV} {h:Heap}:∀{sh:Sh} (n:Now w G aY L loc (s.sT++[o22,.listB 5 fs,.list (sh.hl.map .lit)]) mm X aA h) (ae:(adr X).Nodup) {gs:List Gr} (H:Hd w X (gs++sh.hgs)),
  ∃X' g,Now w G aY L loc (s.sT++[o22,.listB 5 fs,.list sh.hin]++sh.hex) mm X' (aA++g) h/\(adr X').Nodup/\Hd w X' gs/\∀ρ,Ext (adr (aA++g)) ρ->sh.hgs.map (·.2)=sh.hpi.map (λπ=>π.map λi=>ρ.getD i 0):=by
 have hLc:∀{l:List Addr},∀c,L.c=some c->c.C∉l:=λc hc=>by rw[hL] at hc;exact b5 hc
 have two:∀{aA g:dJ} {as ρ:List Addr},Ext (adr (aA++g)) ρ->aA.length=25->adr g=as->g.length=2->as=[25,26].map (λi=>ρ.getD i 0):=by
  intro aA g as ρ x h1 h2 h3
  have:=(eR (b:=aA) (g:=g) x).2
  rw[h1,h3,h2] at this
  exact this.symm
 intro sh n ae gs H
 have nl:aA.length=25:=n.R.len
 cases sh with
 |n=>
  refine⟨X,[],?_,ae,by simpa [Sh.hgs] using H,λ_ _=>rfl⟩
  rw[bQ]
  exact n
 |f a=>
  refine SC (Hd.focus (gs₁:=gs) (gs₂:=[]) H n hLc ae) λg e1 g1 n1 nd1 H1=>?_
  have l1:g.length=2:=(g1 λ_=>default).len
  have a1:(adr (aA++g))[25]? =some (a.getD 0 0):=by
   have:=iY (aA:=aA) e1 (by omega)
   rw[nl] at this
   exact this
  have n2:=Now.weakA n1 (i:=24) (so:=.list [.lit (cS a)]) (so':=.list [.obj 25]) rfl (λad o hr=>iJ hr λws m hw ho=>b7 (fK hw) λu ez hu=>⟨[u],m,⟨⟨_,a1,hu⟩,trivial⟩,ez▸ho⟩)
  refine⟨_,g,n2,nd1,by simpa using H1,λρ x=>?_⟩
  exact congrArg (λz=>[z]) (two x nl e1 l1)
 |r a=>
  refine SC (Hd.focus (gs₁:=gs) (gs₂:=[]) H n hLc ae) λg e1 g1 n1 nd1 H1=>?_
  have l1:g.length=2:=(g1 λ_=>default).len
  have a1:(adr (aA++g))[25]? =some (a.getD 0 0):=by
   have:=iY (aA:=aA) e1 (by omega)
   rw[nl] at this
   exact this
  have n2:=Now.weakA n1 (i:=24) (so:=.list [.lit (cS a)]) (so':=.list [.obj 25]) rfl (λad o hr=>iJ hr λws m hw ho=>b7 (fK hw) λu ez hu=>⟨[u],m,⟨⟨_,a1,hu⟩,trivial⟩,ez▸ho⟩)
  refine⟨_,g,n2,nd1,by simpa using H1,λρ x=>?_⟩
  exact congrArg (λz=>[z]) (two x nl e1 l1)
 |fr a b=>
  refine SC (Hd.focus (gs₁:=gs) (gs₂:=[(hR,b)]) H n hLc ae) λg e1 g1 n1 nd1 H1=>?_
  refine SC (Hd.focus (gs₁:=gs) (gs₂:=[]) H1 n1 hLc nd1) λg' e2 g2 n2 nd2 H2=>?_
  have l1:g.length=2:=(g1 λ_=>default).len
  have l2:g'.length=2:=(g2 λ_=>default).len
  have a1:(adr (aA++g))[25]? =some (a.getD 0 0):=by
   have:=iY (aA:=aA) e1 (by omega)
   rw[nl] at this
   exact this
  have nl2:(aA++g).length=27:=by simp[nl,l1]
  have a2:(adr (aA++g++g'))[27]? =some (b.getD 0 0):=by
   have:=iY (aA:=aA++g) e2 (by omega)
   rw[nl2] at this
   exact this
  have x2:Ext (adr (aA++g)) (adr (aA++g++g')):=⟨adr g',by simp[adr]⟩
  have a1':=x2.get a1
  have n3:=Now.weakA n2 (i:=24) (so:=.list [.lit (cS a),.lit (cS b)]) (so':=.list [.obj 25,.obj 27]) rfl (λad o hr=>iJ hr λws m hw ho=>fP (fL hw) λu u' ez hu hu'=>⟨[u,u'],m,⟨⟨_,a1',hu⟩,⟨_,a2,hu'⟩,trivial⟩,ez▸ho⟩)
  refine⟨_,g++g',by rw[<-bB];exact n3,nd2,by simpa using H2,λρ x=>?_⟩
  rw[<-bB] at x
  have q1:=(eR (b:=aA) (g:=g) (x2.trans x)).2
  have q2:=(eR (b:=aA++g) (g:=g') x).2
  rw[nl,l1,e1] at q1
  rw[nl2,l2,e2] at q2
  exact congr (congrArg (λx y=>[x,y]) q1.symm) q2.symm
 |rf b a=>
  refine SC (Hd.focus (gs₁:=gs) (gs₂:=[(hF,a)]) H n hLc ae) λg e1 g1 n1 nd1 H1=>?_
  refine SC (Hd.focus (gs₁:=gs) (gs₂:=[]) H1 n1 hLc nd1) λg' e2 g2 n2 nd2 H2=>?_
  have l1:g.length=2:=(g1 λ_=>default).len
  have l2:g'.length=2:=(g2 λ_=>default).len
  have a1:(adr (aA++g))[25]? =some (b.getD 0 0):=by
   have:=iY (aA:=aA) e1 (by omega)
   rw[nl] at this
   exact this
  have nl2:(aA++g).length=27:=by simp[nl,l1]
  have a2:(adr (aA++g++g'))[27]? =some (a.getD 0 0):=by
   have:=iY (aA:=aA++g) e2 (by omega)
   rw[nl2] at this
   exact this
  have x2:Ext (adr (aA++g)) (adr (aA++g++g')):=⟨adr g',by simp[adr]⟩
  have a1':=x2.get a1
  have n3:=Now.weakA n2 (i:=24) (so:=.list [.lit (cS b),.lit (cS a)]) (so':=.list [.obj 25,.obj 27]) rfl (λad o hr=>iJ hr λws m hw ho=>fP (fL hw) λu u' ez hu hu'=>⟨[u,u'],m,⟨⟨_,a1',hu⟩,⟨_,a2,hu'⟩,trivial⟩,ez▸ho⟩)
  refine⟨_,g++g',by rw[<-bB];exact n3,nd2,by simpa using H2,λρ x=>?_⟩
  rw[<-bB] at x
  have q1:=(eR (b:=aA) (g:=g) (x2.trans x)).2
  have q2:=(eR (b:=aA++g) (g:=g') x).2
  rw[nl,l1,e1] at q1
  rw[nl2,l2,e2] at q2
  exact congr (congrArg (λx y=>[x,y]) q1.symm) q2.symm
end
noncomputable def Sh.dF (l:List Addr):Sh->Sh
 | .n=>.f l
 | .r b=>.rf b l
 |sh=>sh
noncomputable def Sh.dR (l:List Addr):Sh->Sh
 | .n=>.r l
 | .f a=>.fr a l
 |sh=>sh
noncomputable def eY (ρ:List Addr) (l:List Nat):List Addr:=l.map λi=>ρ.getD i 0
def pW (wd:Wd) (p:Fld×List Addr):Gr:=(LO wd p.1,p.2)
theorem AS (f:List SO):∀{sh:Sh},sh.hgs.map (·.2)=sh.hpi.map (eY ρ)->((sh.hg1++(f::ML hF sh.nF.2)).zip ((sh.hpi++([sh.nF.1]::zK sh.nF.2)).map (eY ρ))).Perm ((f,[ρ.getD sh.nF.1 0])::(sh.dF (eY ρ sh.nF.2)).hgs)
 | .n,_=>List.Perm.refl _
 | .f a,e=>by
  have e1:a=eY ρ [25,26]:=(List.cons.inj e).1
  subst e1
  exact List.Perm.swap _ _ _
 | .r a,e=>by
  have e1:a=eY ρ [25,26]:=(List.cons.inj e).1
  subst e1
  exact List.Perm.swap _ _ _
 | .fr a b,e=>by
  have e1:a=eY ρ [25,26]:=(List.cons.inj e).1
  have e2:b=eY ρ [27,28]:=(List.cons.inj (List.cons.inj e).2).1
  subst e1 e2
  exact bM (l₁:=[_,_]) (l₂:=[_])
 | .rf b a,e=>by
  have e1:b=eY ρ [25,26]:=(List.cons.inj e).1
  have e2:a=eY ρ [27,28]:=(List.cons.inj (List.cons.inj e).2).1
  subst e1 e2
  exact bM (l₁:=[_,_]) (l₂:=[_])
theorem AT (f:List SO):∀{sh:Sh},sh.hgs.map (·.2)=sh.hpi.map (eY ρ)->((sh.hg1++(f::ML hR sh.nR.2)).zip ((sh.hpi++([sh.nR.1]::zK sh.nR.2)).map (eY ρ))).Perm ((f,[ρ.getD sh.nR.1 0])::(sh.dR (eY ρ sh.nR.2)).hgs)
 | .n,_=>List.Perm.refl _
 | .f a,e=>by
  have e1:a=eY ρ [25,26]:=(List.cons.inj e).1
  subst e1
  exact List.Perm.swap _ _ _
 | .r a,e=>by
  have e1:a=eY ρ [25,26]:=(List.cons.inj e).1
  subst e1
  exact List.Perm.swap _ _ _
 | .fr a b,e=>by
  have e1:a=eY ρ [25,26]:=(List.cons.inj e).1
  have e2:b=eY ρ [27,28]:=(List.cons.inj (List.cons.inj e).2).1
  subst e1 e2
  exact bM (l₁:=[_,_]) (l₂:=[_])
 | .rf b a,e=>by
  have e1:b=eY ρ [25,26]:=(List.cons.inj e).1
  have e2:a=eY ρ [27,28]:=(List.cons.inj (List.cons.inj e).2).1
  subst e1 e2
  exact bM (l₁:=[_,_]) (l₂:=[_])
theorem NO:∀{sh:Sh},sh.hgs.map (·.2)=sh.hpi.map (eY ρ)->(sh.hin++zJ sh.nF.2).map (cD ρ (List.range 25))=(sh.dF (eY ρ sh.nF.2)).hl.map .lit
 | .n,_=>by show [cD _ _ _]=_;rw[cJ (by omega)];rfl
 | .f a,e=>by
  have e1:a=eY ρ [25,26]:=(List.cons.inj e).1
  subst e1
  show [cD _ _ _]=_;rw[cJ (by omega)];rfl
 | .r a,e=>by
  have e1:a=eY ρ [25,26]:=(List.cons.inj e).1
  subst e1
  show [cD _ _ _,cD _ _ _]=_;rw[cJ (by omega),cJ (by omega)];rfl
 | .fr a b,e=>by
  have e1:a=eY ρ [25,26]:=(List.cons.inj e).1
  have e2:b=eY ρ [27,28]:=(List.cons.inj (List.cons.inj e).2).1
  subst e1 e2
  show [cD _ _ _,cD _ _ _]=_;rw[cJ (by omega),cJ (by omega)];rfl
 | .rf b a,e=>by
  have e1:b=eY ρ [25,26]:=(List.cons.inj e).1
  have e2:a=eY ρ [27,28]:=(List.cons.inj (List.cons.inj e).2).1
  subst e1 e2
  show [cD _ _ _,cD _ _ _]=_;rw[cJ (by omega),cJ (by omega)];rfl
theorem NP:∀{sh:Sh},sh.hgs.map (·.2)=sh.hpi.map (eY ρ)->(sh.hin++zJ sh.nR.2).map (cD ρ (List.range 25))=(sh.dR (eY ρ sh.nR.2)).hl.map .lit
 | .n,_=>by show [cD _ _ _]=_;rw[cJ (by omega)];rfl
 | .r a,e=>by
  have e1:a=eY ρ [25,26]:=(List.cons.inj e).1
  subst e1
  show [cD _ _ _]=_;rw[cJ (by omega)];rfl
 | .f a,e=>by
  have e1:a=eY ρ [25,26]:=(List.cons.inj e).1
  subst e1
  show [cD _ _ _,cD _ _ _]=_;rw[cJ (by omega),cJ (by omega)];rfl
 | .fr a b,e=>by
  have e1:a=eY ρ [25,26]:=(List.cons.inj e).1
  have e2:b=eY ρ [27,28]:=(List.cons.inj (List.cons.inj e).2).1
  subst e1 e2
  show [cD _ _ _,cD _ _ _]=_;rw[cJ (by omega),cJ (by omega)];rfl
 | .rf b a,e=>by
  have e1:b=eY ρ [25,26]:=(List.cons.inj e).1
  have e2:a=eY ρ [27,28]:=(List.cons.inj (List.cons.inj e).2).1
  subst e1 e2
  show [cD _ _ _,cD _ _ _]=_;rw[cJ (by omega),cJ (by omega)];rfl
theorem Sh.nF_ge (sh:Sh):25<=sh.nF.1:=by cases sh<;>simp[Sh.nF]
theorem Sh.nR_ge (sh:Sh):25<=sh.nR.1:=by cases sh<;>simp[Sh.nR]
theorem yO (s:LS) (ffs hs:List Value) (ρ:List Addr):(gR s ffs hs).map (cO ρ (List.range 25))=gR s ffs hs:=by
 unfold gR
 rw[bH,LS.sel s (by omega)]
 congr 1
 simp only[bL,bf]
 have a1:∀l:List Value,cO ρ (List.range 25) (.list (l.map .lit))=.list (l.map .lit):=λl=>by
  show SO.list _=_
  rw[cY]
 have a2:∀l:List Value,cO ρ (List.range 25) (.listB 5 (l.map .lit))=.listB 5 (l.map .lit):=λl=>by
  show SO.listB 5 _=_
  rw[cY]
 rw[a1,a2]
 rfl
theorem FF (s:LS) (ffs:List Value) {j:Nat} (hj:25<=j) {hl:List Value} (ρ:List Addr) (e:vs.map (cD ρ (List.range 25))=hl.map .lit):
  (wG s ffs j vs).map (cO ρ (List.range 25))=s.sT++[.fz,.listB 6 ((ffs++[Value.ref (ρ.getD j 0)]).map .lit),.list (hl.map .lit)]:=by
 unfold wG
 rw[bH,LS.sel s (by omega)]
 congr 1
 simp only[bL,bf]
 have a1:cO ρ (List.range 25) (.list vs)=.list (hl.map .lit):=by
  show SO.list _=_
  rw[e]
 have a2:cO ρ (List.range 25) (.listB 6 (ffs.map .lit++[.obj j]))=.listB 6 ((ffs++[Value.ref (ρ.getD j 0)]).map .lit):=by
  show SO.listB 6 _=_
  rw[bH,cY,bH]
  simp only[bL,bf]
  rw[cJ hj]
 rw[a1,a2]
 rfl
section
variable {w:World}
theorem sO (C:Fx w (f6 (k+10)) A outer aZ base aY L p loose aC mg mb)
  {s0:Shared} {s:LS} {ffs:List Value} {wd:Wd} {aF:Bool} {b:Array UInt8} {c:Int} {pl mi:Str} {gs:List Gr} (PE:PassesOwn (model rw1.prog w) A ((f6 (k+10)).env L) E) (n:Now w G aY L (dT wd aF b c pl mi) st mm X aA s0.heap) (ae:(adr X).Nodup) (H:Hd w X gs) (hb:b.size+wd.n<=40) (av:ffs.length+1<=5) (hlen:25<=st.length)
  {pis:List (List Nat)} {j:Nat} {g1:List (List SO)} (hj:25<=j)
  (hrun:∀ρ,cX (lf ρ 25 pis eA) (E0.S (f6 (k+10)) st (dT wd aF b c pl mi) jJ)=.br true (.ret (some ⟨.next,wG s ffs j vs,g1,(gI wd aF (40+wd.n) (b++cI wd)).map some⟩)) .no)
  (ao:∀ρ aV aS aB h' aU (hl:List Value),Ext (adr aA) ρ->vs.map (cD ρ (List.range 25))=hl.map .lit->adr aB=(adr aA).take 25->Now w G aY L (fA wd aF (b++cI wd) []) (gR s (ffs++[Value.ref (ρ.getD j 0)]) hl) aV aS aB h'->(adr aS).Nodup->Hd w aS (gs++g1.zip (pis.map (eY ρ)))->Q .next {s0 with heap:=h',toks:=aU})
  (hvs:∀ρ,Ext (adr aA) ρ->∃hl:List Value,vs.map (cD ρ (List.range 25))=hl.map .lit):
  wpAny (model rw1.prog w) A (execs jJ ((f6 (k+10)).env L)) Q E s0:=by
 have ac:(f6 (k+10)).cs=none:=rfl
 have hL:=C.c0 ac
 have hc:(gI wd aF (40+wd.n) (b++cI wd)).all (eW 25)=true:=rfl
 refine eT (ih:=E0) (s:=s0) (I0 w) C ac (loc:=dT wd aF b c pl mi) (st:=st) (b:=jJ) PE n ae H (k:=25) (pis:=pis) (ns:=eA) (st1:=wG s ffs j vs) (gs1:=g1) (vs:=gI wd aF (40+wd.n) (b++cI wd)) hlen hc (λρ=>.br _ rfl (hrun ρ)) λρ xs3 mm3 aK h3 tk3 x3 ea3 n3 nd3 H3=>?_
 obtain⟨hl,ehl⟩:=hvs ρ x3
 rw[FF s ffs hj ρ ehl] at n3
 have n4:=Now.weak n3 (i:=23) (so:=.listB 6 ((ffs++[Value.ref (ρ.getD j 0)]).map .lit)) (so':=.listB 5 ((ffs++[Value.ref (ρ.getD j 0)]).map .lit)) rfl (λρ a o h=>⟨h.1,by simp;omega⟩)
 have hbs:(b++cI wd).size<=40:=by rw[Array.size_append];unfold cI;rw[Array.size_replicate];exact hb
 have n5:=gU n4 (x:="octets") (m:=40+wd.n) (m':=40) (b:=b++cI wd) rfl hbs
 have eL:jG (fD ρ 25 eA (gI wd aF (40+wd.n) (b++cI wd))) "octets" (.bytes 40 (b++cI wd))=fA wd aF (b++cI wd) []:=by
  have h1:jG (fD ρ 25 eA (gI wd aF (40+wd.n) (b++cI wd))) "octets" (.bytes 40 (b++cI wd))=([("parts",cD ρ (List.range 25) (.obj 22)),("width",.int wd.n),("is_empty",.bool aF),("octets",.bytes 40 (b++cI wd)),("fields",cD ρ (List.range 25) (.obj 23)),("hidden",cD ρ (List.range 25) (.obj 24))]:Loc):=rfl
  rw[h1,b0 (by omega),b0 (by omega),b0 (by omega)]
  rfl
 rw[eL] at n5
 refine ao ρ mm3 xs3 aK h3 tk3 hl x3 ehl ?_ n5 nd3 H3
 rw[ea3]
 have hl:25<=(adr aA).length:=by
  have:=n.R.len
  simp only[adr,bF]
  rw[this]
  exact hlen
 exact take_getD x3 hl
end
end Mine.L
set_option backward.match.sparseCases true
namespace Mine.L
open Mine Mine.R Mine.X
noncomputable def PS.isN:PS->Bool
 | .num _=>true
 | .neg _=>true
 |_=>false
noncomputable def PS.isX:PS->Bool
 | .num _=>true
 | .neg _=>true
 | .bad _=>true
 |_=>false
theorem aCE (s:LS) (ffs hs:List Value) (wd:Wd) (aF:Bool) (c:Int) (b:Array UInt8) (q:PS) (k:Nat):E0.T (f6 (k+10)) (gR s ffs hs) (dT wd aF b c q.plus q.minus) (fQ uF)=.ret (q.isN,gR s ffs hs):=by
 rw[rD1]
 cases q<;>rfl
theorem aCG (s:LS) (ffs hs:List Value) (wd:Wd) (aF:Bool) (c:Int) (b:Array UInt8) (q:PS) (k:Nat):E0.T (f6 (k+10)) (gR s ffs hs) (dT wd aF b c q.plus q.minus) (fQ kY)=.ret (q.isX,gR s ffs hs):=by
 rw[rD3]
 cases q<;>rfl
def Sh.frm (sh sh':Sh) (q:PS):Prop:=(sh'.hasF=true->sh.hasF=true\/q=.dist)/\(sh'.hasR=true->sh.hasR=true\/q=.way)
theorem Sh.frm_same {sh:Sh} {q:PS}:sh.frm sh q:=⟨.inl,.inl⟩
theorem Sh.frm_F {sh:Sh} {l:List Addr}:sh.frm (sh.dF l) .dist:=by
 refine⟨λ_=>.inr rfl,λh=>.inl ?_⟩
 cases sh<;>first|exact h|rfl|cases h
theorem Sh.frm_R {sh:Sh} {l:List Addr}:sh.frm (sh.dR l) .way:=by
 refine⟨λh=>.inl ?_,λ_=>.inr rfl⟩
 cases sh<;>first|exact h|rfl|cases h
theorem FC (s:LS) (ffs hs:List Value):(gR s ffs hs).length=25:=rfl
theorem uH (s:LS) (ffs:List Value) (sh:Sh):25<=(AU s ffs sh).length:=by
 unfold AU
 rw[bI]
 show 25<=25+_
 omega
theorem ZO (a b c:List Gr) (x:Gr):((a++(b++c))++[x]).Perm (a++x::(b++c)):=by
 rw[bB]
 exact bJ _ (bM (l₂:=[x]))
theorem lO (a b:dJ):adr (a++b)=adr a++adr b:=by unfold adr;exact bH
theorem OS (a b c d:List Gr) (x:Gr):(a++x::(b++(c++d))).Perm ((a++x::(b++d))++c):=by
 simp only[bB,bk]
 exact bJ _ (List.Perm.cons _ (bJ _ bM))
theorem OT (a b c d:List Gr) (x f:Gr):((a++x::(b++d))++f::c).Perm (a++x::(b++([f]++(c++d)))):=by
 simp only[bB,bk,List.nil_append]
 refine bJ _ (List.Perm.cons _ (bJ _ ?_))
 exact bM (l₂:=f::c)
section
variable {w:World}
theorem JP {M:Model} {env:Env} {bs:List Stmt} (h:wpAny M A (execs bs env) Q E s):wpAny M A (execs bs env) (λf s'=>match f with| .next=>wpAny M A (execs [] env) Q E s'|f=>Q f s') E s:=by
 refine wpAny_mono h (λf s' h=>?_) λ_ _ h=>h
 cases f with
 |next=>exact wpAny_execs_nil h
 |_=>exact h
theorem p6 {a:List Value}:∀{b:List Value},a.map SV.lit=b.map SV.lit->a=b:=by
 induction a with
 |nil=>intro b h;cases b with
  |nil=>rfl
  |cons=>exact xA h
 |cons x a ih=>intro b h;cases b with
  |nil=>exact xA h.symm
  |cons y b=>
   obtain⟨h1,h2⟩:=List.cons.inj h
   cases h1
   rw[ih h2]
theorem FN (C:Fx w (f6 (k+10)) A outer aZ base aY L p loose aC mg mb)
  {s0:Shared} {s:LS} {ffs:List Value} {sh:Sh} {wd:Wd} {aF:Bool} {b:Array UInt8} {q:PS} {as:List Addr} {gsA gsB oth:List Gr} {fl:List Fld} (PE:PassesOwn (model rw1.prog w) A ((f6 (k+10)).env L) E)
  (n:Now w G aY L (fA wd aF b []) (gR s ffs sh.hl) mm X aA s0.heap) (ae:(adr X).Nodup) (H:Hd w X (gsA++(q.grp,as)::(gsB++(sh.hgs++oth)))) (hb:b.size+wd.n<=40) (av:ffs.length+1<=5) (hv:v=.ref (as.getD 0 0))
  (ao:∀b' (fn:List (Fld×List Addr)) sh' aV aS aB h' aU,fR wd b fl q=.ok (b',fl++fn.map (·.1))->adr aB=adr aA->Now w G aY L (fA wd aF b' []) (gR s (ffs++fn.map λf=>cS f.2) sh'.hl) aV aS aB h'->(adr aS).Nodup->
   Hd w aS (gsA++(q.grp,as)::(gsB++(fn.map (pW wd)++(sh'.hgs++oth))))->sh.frm sh' q->Q .next {s0 with heap:=h',toks:=aU})
  (kret:∀er t loc' aV aS aB h' aU,fR wd b fl q=.error er->adr aB=adr aA->Now w G aY L loc' (gR s ffs sh.hl) aV aS aB h'->(adr aS).Nodup->Hd w aS (gsA++(q.grp,as)::(gsB++(sh.hgs++oth)))->Q (.ret (.str er.word t)) {s0 with heap:=h',toks:=aU}):
  wpAny (model rw1.prog w) A (assign QD ((f6 (k+10)).fenv L) v) (λ_ s₃=>wpAny (model rw1.prog w) A (execs uE ((f6 (k+10)).fenv L)) Q E s₃) E s0:=by
 have ac:(f6 (k+10)).cs=none:=rfl
 have hL:=C.c0 ac
 have hnl:aA.length=25:=n.R.len
 have hal:(adr aA).length=25:=by simp[adr,hnl]
 obtain⟨g,eg,Rg,n1,nd1,H1⟩:=H.focus n (λc hc=>by rw[hL] at hc;exact b5 hc) ae
 rw[FC] at n1
 have hgl:g.length=q.len:=by rw[(Rg λ_=>default).len,yU]
 have hg0:0<g.length:=hgl▸Nat.lt_of_succ_lt q.len1
 have hr:RV (adr (aA++g)) (.obj 25) v:=by
  refine⟨as.getD 0 0,?_,hv⟩
  have:=iY (aA:=aA) eg hg0
  rw[hnl] at this
  exact this
 refine lJ C.hk ac C.hh hL (FH (k+10) s ffs sh.hl wd aF b q) n1 ⟨v,rfl,hr⟩ (show v=v from rfl) λaQ aJ h2 aX x2 n2=>?_
 show wpAny _ A (execs ([]++uE) _) _ E _
 refine dS ?_
 rw[show(f6 (k+10)).fenv L=(f6 (k+10)).env L from rfl]
 have n2:Now w G aY L (fA wd aF b [("node",.obj 26),("worth",.int q.worth),("plus",.str q.plus),("minus",.str q.minus)]) (gR s ffs sh.hl++q.grp.map (lG 25)) aQ (minus X g) aJ h2:=n2
 refine eT (ih:=E0) (s:={s0 with heap:=h2,toks:=aX}) (I0 w) C ac (loc:=fA wd aF b [("node",.obj 26),("worth",.int q.worth),("plus",.str q.plus),("minus",.str q.minus)]) (st:=gR s ffs sh.hl++q.grp.map (lG 25)) (b:=[]) PE n2 nd1 H1 (k:=25) (pis:=[List.range' 25 q.len]) (ns:=wF) (st1:=gR s ffs sh.hl) (gs1:=[q.grp]) (vs:=FI wd aF b q.worth q.plus q.minus) (by rw[bI,FC];omega) rfl (λρ=>.ret (rD0 ρ s ffs sh.hl wd aF b q k)) λρ xs3 mm3 aK h3 tk3 x3 ea3 n3 nd3 H3=>?_
 rw[yO] at n3
 have x13:=x2.trans x3
 have er:=eR x13
 rw[hnl,hgl] at er
 have e3:adr aK=adr aA:=ea3.trans er.1
 have H4:Hd w xs3 (gsA++(q.grp,as)::(gsB++(sh.hgs++oth))):=by
  refine Hd.perm (ZO _ _ _ _) ?_
  have:(as:List Addr)=(List.range' 25 q.len).map (λi=>ρ.getD i 0):=by rw[er.2,eg]
  rw[this]
  exact H3
 have n3:Now w G aY L (dT wd aF b q.worth q.plus q.minus) (gR s ffs sh.hl) mm3 xs3 aK h3:=by
  have h1:fD ρ 25 wF (FI wd aF b q.worth q.plus q.minus)=([("parts",cD ρ (List.range 25) (.obj 22)),("width",.int wd.n),("is_empty",.bool aF),("octets",.bytes 40 b),("fields",cD ρ (List.range 25) (.obj 23)),("hidden",cD ρ (List.range 25) (.obj 24)),("worth",.int q.worth),("plus",.str q.plus),("minus",.str q.minus)]:Loc):=rfl
  rw[h1,b0 (by omega),b0 (by omega),b0 (by omega)] at n3
  exact n3
 clear n2 n1 H1 H3
 rw[E6]
 refine wpAny_execs_cons (wpAny_If ((I0 w).T (f6 (k+10)) (gR s ffs sh.hl) (dT wd aF b q.worth q.plus q.minus) (fQ uF) C (φ:=λy=>y=(q.isN,gR s ffs sh.hl)) (by rw[aCE];exact rfl) n3 λv1 st1 aL h4 tk4 af x4 n4=>?_))
 injection af with z1 z2
 subst z1;replace n4:=z2▸n4
 have e4:adr aL=adr aA:=(cM x4 n3.R n4.R).trans e3
 have ret:∀{c:Int} {pl mi:Str} {v:Str} {bs:List Stmt} {er:Err} (aM:dJ) (h5:Heap) (tk5:Nat),v=er.word->fR wd b fl q=.error er->adr aM=adr aA->Now w G aY L (dT wd aF b c pl mi) (gR s ffs sh.hl) mm3 xs3 aM h5->
   E0.S (f6 (k+10)) (gR s ffs sh.hl) (dT wd aF b c pl mi) bs=.ret (.ret (.str v),gR s ffs sh.hl,dT wd aF b c pl mi)->
   ∀{Q':Flow->Shared->Prop},(∀u s',Q (.ret u) s'->Q' (.ret u) s')->wpAny (model rw1.prog w) A (execs bs ((f6 (k+10)).env L)) Q' E {s0 with heap:=h5,toks:=tk5}:=by
  intro c pl mi v bs er aM h5 tk5 hv hs e5 n5 hrun Q' hQ
  refine(I0 w).S (f6 (k+10)) (gR s ffs sh.hl) (dT wd aF b c pl mi) bs C ac (φ:=λy=>y=(.ret (.str v),gR s ffs sh.hl,dT wd aF b c pl mi)) (by rw[hrun];exact rfl) PE n5 λf st6 MB fl6 aR aN h6 tk6 af x6 n6 hf=>?_
  injection af with y1 y2
  injection y2 with y2 y3
  rw[y1] at hf;rw[y2] at n6;rw[y3] at n6
  refine b7 hf λu z1 z2=>?_;clear hf;subst z1
  obtain⟨t,rfl⟩:=z2
  rw[hv]
  exact hQ _ _ (kret er t _ aR xs3 aN h6 tk6 hs ((cM x6 n5.R n6.R).trans e5) n6 nd3 H4)
 have number:∀c:Int,q.worth=c->q.plus=""->q.minus=""->(fR wd b fl q=if iM wd c then .ok (b++cQ wd c,fl) else .error .enc)->wpAny (model rw1.prog w) A (execs [.If (fQ pT) [uG] [] (oQ pT),rL] ((f6 (k+10)).env L)) Q E {s0 with heap:=h4,toks:=tk4}:=by
  intro c hc hp hm hs
  rw[hc,hp,hm] at n4
  refine wpAny_execs_cons (wpAny_If ((I1 w).T (f6 (k+10)) (gR s ffs sh.hl) (dT wd aF b c "" "") (fQ pT) C (φ:=λy=>y=(!iM wd c,gR s ffs sh.hl)) ?_ n4 λv2 st2 aM h5 tk5 af x5 n5=>?_))
  ·rw[rD2,<-FU]
   refine⟨λe=>?_,λe=>?_⟩
   ·show _=_
    rw[e,Bool.true_and]
   ·show _=_
    rw[e,Bool.false_and]
    rfl
  injection af with z1 z2
  subst z1;replace n5:=z2▸n5
  have e5:adr aM=adr aA:=(cM x5 n4.R n5.R).trans e4
  cases hf:iM wd c with
  |false=>
   simp only[Bool.not_false,if_true]
   exact ret (v:=DA) (er:=.enc) aM h5 tk5 rfl (by rw[hs,hf];rfl) e5 n5 (rD4 _ _ _ _ _ _ _ _) λu s' h=>h
  |true=>
   simp only[Bool.not_true,bW,if_false]
   refine wpAny_execs_nil ?_
   refine eT (ih:=E1) (s:={s0 with heap:=h5,toks:=tk5}) (I1 w) C ac (loc:=dT wd aF b c "" "") (st:=gR s ffs sh.hl) (b:=[rL]) PE n5 nd3 H4 (k:=25) (pis:=[]) (ns:=eA) (st1:=gR s ffs sh.hl) (gs1:=[]) (vs:=gI wd aF (40+wd.n) (b++gW (s6 0 wd.n (Int.fmod c (wd.hi+1))))) (by rw[FC];omega) rfl (λρ=>.br _ (BI _ _) (rDB ρ s ffs sh.hl wd aF c b k)) λρ xs6 aR aN h6 tk6 x6 ea6 n6 nd6 H6=>?_
   rw[yO,L5] at n6
   have hbs:(b++cQ wd c).size<=40:=by rw[Array.size_append,gQ];exact hb
   have n7:=gU n6 (x:="octets") (m:=40+wd.n) (m':=40) (b:=b++cQ wd c) rfl hbs
   have eL:jG (fD ρ 25 eA (gI wd aF (40+wd.n) (b++cQ wd c))) "octets" (.bytes 40 (b++cQ wd c))=fA wd aF (b++cQ wd c) []:=by
    have h1:jG (fD ρ 25 eA (gI wd aF (40+wd.n) (b++cQ wd c))) "octets" (.bytes 40 (b++cQ wd c))=([("parts",cD ρ (List.range 25) (.obj 22)),("width",.int wd.n),("is_empty",.bool aF),("octets",.bytes 40 (b++cQ wd c)),("fields",cD ρ (List.range 25) (.obj 23)),("hidden",cD ρ (List.range 25) (.obj 24))]:Loc):=rfl
    rw[h1,b0 (by omega),b0 (by omega),b0 (by omega)]
    rfl
   rw[eL] at n7
   have e6:adr aN=adr aA:=by
    rw[ea6,take_getD x6 (by simp[adr,n5.R.len,FC]),e5,<-hal,bj]
   refine ao (b++cQ wd c) [] sh aR xs6 aN h6 tk6 (by rw[hs,if_pos hf,bf,bQ]) e6 ?_ nd6 (by simpa using H6) Sh.frm_same
   rw[bf,bQ]
   exact n7
 have test3:∀(t3:Bool),q.isX=t3->(∀aM h5 tk5,adr aM=adr aA->Now w G aY L (dT wd aF b q.worth q.plus q.minus) (gR s ffs sh.hl) mm3 xs3 aM h5->wpAny (model rw1.prog w) A (execs (if t3=true then [pU] else jJ) ((f6 (k+10)).env L)) Q E {s0 with heap:=h5,toks:=tk5})->
   wpAny (model rw1.prog w) A (execs [.If (fQ kY) [pU] jJ (oQ kY)] ((f6 (k+10)).env L)) Q E {s0 with heap:=h4,toks:=tk4}:=by
  intro t3 ht kk
  refine wpAny_execs_cons (wpAny_If ((I0 w).T (f6 (k+10)) (gR s ffs sh.hl) (dT wd aF b q.worth q.plus q.minus) (fQ kY) C (φ:=λy=>y=(t3,gR s ffs sh.hl)) (by rw[aCG,ht];exact rfl) n4 λv2 st2 aM h5 tk5 af x5 n5=>?_))
  injection af with z1 z2
  replace ht:=z1.symm▸ht;replace kk:=z1.symm▸kk;replace n5:=z2▸n5
  have:=JP (kk aM h5 tk5 ((cM x5 n4.R n5.R).trans e4) n5)
  clear kk
  cases v2 with
  |true=>exact this
  |false=>exact this
 have t25:∀{aM:dJ},adr aM=adr aA->(adr aM).take 25=adr aA:=λe=>by rw[e,<-hal,bj]
 have app:∀(c:Int),q.worth=c->q.plus=cV->q.minus=""->q.isX=false->fR wd b fl q=.ok (b++cI wd,fl++[⟨b.size,cV,c⟩])->wpAny (model rw1.prog w) A (execs [.If (fQ kY) [pU] jJ (oQ kY)] ((f6 (k+10)).env L)) Q E {s0 with heap:=h4,toks:=tk4}:=by
  intro c hc hp hm hx hs
  refine test3 false hx λaM h5 tk5 e5 n5=>?_
  rw[hc,hp,hm] at n5
  refine sO (s0:={s0 with heap:=h5,toks:=tk5}) C PE n5 nd3 H4 hb av (by rw[FC];omega) (j:=25) (by omega) (λρ=>rDA ρ s ffs sh.hl wd aF c b k) (λρ aR xs6 aN h6 tk6 hl x6 ehl e6 n6 nd6 H6=>?_) λρ _=>⟨sh.hl,cY _⟩
  rw[cY] at ehl
  have:sh.hl=hl:=p6 ehl
  rw[<-this] at ehl;rw[<-this] at n6
  refine ao (b++cI wd) [(⟨b.size,cV,c⟩,[ρ.getD 25 0])] sh aR xs6 aN h6 tk6 hs (e6.trans (t25 e5)) n6 nd6 (Hd.perm ?_ H6) Sh.frm_same
  exact OP _ _ _ _ _ _
 have go:∀(t1:Bool),q.isN=t1->wpAny (model rw1.prog w) A (execs (if t1=true then [.If (fQ pT) [uG] [] (oQ pT),rL] else [.If (fQ kY) [pU] jJ (oQ kY)]) ((f6 (k+10)).env L)) Q E {s0 with heap:=h4,toks:=tk4}->(if q.isN=true then wpAny (model rw1.prog w) A (execs [.If (fQ pT) [uG] [] (oQ pT),rL] ((f6 (k+10)).env L)) (λf s'=>match f with| .next=>wpAny (model rw1.prog w) A (execs [] ((f6 (k+10)).env L)) Q E s'|f=>Q f s') E {s0 with heap:=h4,toks:=tk4} else wpAny (model rw1.prog w) A (execs [.If (fQ kY) [pU] jJ (oQ kY)] ((f6 (k+10)).env L)) (λf s'=>match f with| .next=>wpAny (model rw1.prog w) A (execs [] ((f6 (k+10)).env L)) Q E s'|f=>Q f s') E {s0 with heap:=h4,toks:=tk4}):=by
  intro t1 ht h
  rw[<-ht] at h
  cases hx:q.isN with
  |true=>rw[hx] at h;exact JP h
  |false=>rw[hx] at h;exact JP h
 refine q.el (λc e=>go true (congrArg PS.isN e) (number c (congrArg PS.worth e) (congrArg PS.plus e) (congrArg PS.minus e) (by rw[e];rfl))) (λc e=>go true (congrArg PS.isN e) (number c (congrArg PS.worth e) (congrArg PS.plus e) (congrArg PS.minus e) (by rw[e];rfl))) (λc e=>go false (congrArg PS.isN e) (app c (congrArg PS.worth e) (congrArg PS.plus e) (congrArg PS.minus e) (congrArg PS.isX e) (by rw[e];rfl))) (λc e=>go false (congrArg PS.isN e) (app (7-c) (congrArg PS.worth e) (congrArg PS.plus e) (congrArg PS.minus e) (congrArg PS.isX e) (by rw[e];rfl))) (λc e=>?_) (λe=>?_) λe=>?_
 ·refine go false (congrArg PS.isN e) (test3 true (congrArg PS.isX e) λaM h5 tk5 e5 n5=>?_)
  exact ret (v:=DC) (er:=.sym) aM h5 tk5 rfl (by rw[e];rfl) e5 n5 (rD5 _ _ _ _ _ _ _ _) λu s' h=>h
 ·refine go false (congrArg PS.isN e) ?_
  clear number app go
  subst e
  refine test3 false rfl λaM h5 tk5 e5 n5=>?_
  have n5:Now w G aY L (dT wd aF b 0 cV cC) (s.sT++[.fz,.listB 5 (ffs.map .lit),.list (sh.hl.map .lit)]) mm3 xs3 aM h5:=n5
  have H5:Hd w xs3 ((gsA++(PS.dist.grp,as)::(gsB++oth))++sh.hgs):=Hd.perm (OS _ _ _ _ _) H4
  refine kS (mU hL n5 nd3 H5) λX6 g6 n6 nd6 H6 hpi=>?_
  refine sO (s0:={s0 with heap:=h5,toks:=tk5}) C PE (st:=AU s ffs sh) n6 nd6 H6 hb av (uH _ _ _) sh.nF_ge (λρ=>rDF ρ s sh ffs wd aF 0 b k) (λρ mm7 xs7 aO h7 tk7 hl x7 ehl e7 n7 nd7 H7=>?_) λρ x7=>⟨_,NO (hpi ρ x7)⟩
  have:=p6 ((NO (hpi ρ x7)).symm.trans ehl)
  subst this
  refine ao (b++cI wd) [(⟨b.size,kI,0⟩,[ρ.getD sh.nF.1 0])] (sh.dF (eY ρ sh.nF.2)) mm7 xs7 aO h7 tk7 rfl (e7.trans ?_) n7 nd7 (Hd.perm ?_ H7) Sh.frm_F
  ·rw[lO,bu (by rw[e5,hal];omega)]
   exact t25 e5
  ·exact(bJ _ (AS _ (hpi ρ x7))).trans (OT _ _ _ _ _ _)
 ·refine go false (congrArg PS.isN e) ?_
  clear number app go
  subst e
  refine test3 false rfl λaM h5 tk5 e5 n5=>?_
  have n5:Now w G aY L (dT wd aF b 14 cC cV) (s.sT++[.fz,.listB 5 (ffs.map .lit),.list (sh.hl.map .lit)]) mm3 xs3 aM h5:=n5
  have H5:Hd w xs3 ((gsA++(PS.way.grp,as)::(gsB++oth))++sh.hgs):=Hd.perm (OS _ _ _ _ _) H4
  refine kS (mU hL n5 nd3 H5) λX6 g6 n6 nd6 H6 hpi=>?_
  refine sO (s0:={s0 with heap:=h5,toks:=tk5}) C PE (st:=AU s ffs sh) n6 nd6 H6 hb av (uH _ _ _) sh.nR_ge (λρ=>rDR ρ s sh ffs wd aF 14 b k) (λρ mm7 xs7 aO h7 tk7 hl x7 ehl e7 n7 nd7 H7=>?_) λρ x7=>⟨_,NP (hpi ρ x7)⟩
  have:=p6 ((NP (hpi ρ x7)).symm.trans ehl)
  subst this
  refine ao (b++cI wd) [(⟨b.size,kJ,14⟩,[ρ.getD sh.nR.1 0])] (sh.dR (eY ρ sh.nR.2)) mm7 xs7 aO h7 tk7 rfl (e7.trans ?_) n7 nd7 (Hd.perm ?_ H7) Sh.frm_R
  ·rw[lO,bu (by rw[e5,hal];omega)]
   exact t25 e5
  ·exact(bJ _ (AT _ (hpi ρ x7))).trans (OT _ _ _ _ _ _)
end
end Mine.L
set_option backward.match.sparseCases false
set_option backward.match.sparseCases true
namespace Mine.L
open Mine Mine.R Mine.X
def dS0:Stmt:=b8 r1024_3.body
def nH:Stmt:=hd2 r1024_3.body
def FD:Stmt:=b8 (wN nH)
def FE:Stmt:=match r1024_3.body with|[_,_,_,x]=>x|_=>.Pass default
theorem LK:r1024_3.body=[dS0,wE,.If (fQ nH) [FD] [] (oQ nH),FE]:=by kernel_rfl
def gH (s:LS) (aE ffs hs:List Value):List SO:=s.sT++[.list (aE.map .lit),.listB 5 (ffs.map .lit),.list (hs.map .lit)]
def NQ (s:LS) (aE ffs:List Value) (sh:Sh):List SO:=s.sT++[.list (aE.map .lit),.listB 5 (ffs.map .lit),.list sh.hin]++sh.hex
def yN (wd:Wd) (aF:Bool):Loc:=[("is_empty",.bool aF),("width",.int wd.n),("parts",.obj 22)]
def rU (s:LS) (aE:List Value):List SO:=s.sT++[.list (aE.map .lit)]
theorem rD8 (ρ:List Addr) (s:LS) (aE:List Value) (wd:Wd) (aF:Bool) (k:Nat):
  cX (lf ρ 25 [] eA) (E0.S (f6 (k+10)) (rU s aE) (yN wd aF) [dS0])=
   .ret (some ⟨.next,s.sT++[.list (aE.map .lit),.list [],.list []],[],[some (.obj 22),some (.int wd.n),some (.bool aF),some (.bytes 0 #[]),some (.obj 23),some (.obj 24)]⟩):=by kernel_rfl
theorem aCH (s:LS) (aE ffs hs:List Value) (wd:Wd) (b:Array UInt8) (k:Nat):E0.T (f6 (k+10)) (gH s aE ffs hs) (fA wd false b []) (fQ nH)=.ret (false,gH s aE ffs hs):=by kernel_rfl
theorem aCI (s:LS) (aE ffs hs:List Value) (v:Value) (wd:Wd) (b:Array UInt8) (k:Nat):E0.T (f6 (k+10)) (gH s aE (v::ffs) hs) (fA wd true b []) (fQ nH)=.ret (true,gH s aE (v::ffs) hs++[.list []]):=by kernel_rfl
theorem aCJ (s:LS) (aE hs:List Value) (wd:Wd) (b:Array UInt8) (k:Nat):E0.T (f6 (k+10)) (gH s aE [] hs) (fA wd true b []) (fQ nH)=.br true (.ret ((fW b).toList !=(#[]:Array UInt8).toList,gH s aE [] hs++[.list []])) .no:=by kernel_rfl
def Sh.srt:Sh->List Value
 | .n=>[]
 | .f a=>[cS a]
 | .r b=>[cS b]
 | .fr a b=>[cS a,cS b]
 | .rf b a=>[cS a,cS b]
noncomputable def jV (b:Array UInt8) (ffs hs:List Value):List SO:=[.tup [.bytes 40 b,.obj 1,.obj 2],.tup (ffs.map .lit),.list (hs.map .lit)]
noncomputable def Sh.srtN:Sh->List Nat
 | .n=>[]
 | .f _=>[25]
 | .r _=>[25]
 | .fr _ _=>[25,27]
 | .rf _ _=>[27,25]
noncomputable def Sh.rI:Sh->Nat
 | .n=>27
 | .f _=>29
 | .r _=>29
 | .fr _ _=>31
 | .rf _ _=>31
noncomputable def Sh.rP:Sh->List Nat
 | .n=>[27,25,26]
 | .f _=>[29,27,28]
 | .r _=>[29,27,28]
 | .fr _ _=>[31,29,30]
 | .rf _ _=>[31,29,30]
theorem rD9 (ρ:List Addr) (s:LS) (aE ffs:List Value) (sh:Sh) (wd:Wd) (aF:Bool) (b:Array UInt8) (k:Nat):
  cX (lf ρ 23 (sh.hpi++[sh.rP]) []) (E0.S (f6 (k+10)) (NQ s aE ffs sh) (fA wd aF b []) [FE])=
   .ret (some ⟨.ret (.obj sh.rI),rU s aE,sh.hg1++[[.tup [.bytes 40 b,.obj 1,.obj 2],.tup ((ffs.map .lit).map (cD ρ sh.rP)),.list (sh.srtN.map λi=>.lit (.ref (ρ.getD i 0)))]],[]⟩):=by
 cases sh<;>kernel_rfl
theorem aCF (st:List SO) (wd:Wd) (aF:Bool) (b:Array UInt8) (k:Nat):E0.S (f6 (k+10)) st (fA wd aF b []) [FD]=.ret (.ret (.str DB),st,fA wd aF b []):=by kernel_rfl
theorem iG {α:Type} {p:α->Bool}:∀{l:List α},l.dropWhile p=[]->∀x∈l,p x=true
 |[],_,x,hx=>by cases hx
 |a::l,h,x,hx=>by
  rw[List.dropWhile_cons] at h
  split at h
  ·rename_i ha
   cases hx with
   |head=>exact ha
   |tail _ hx=>exact iG h x hx
  ·first|exact b5 h|exact xA h.symm
theorem jU {α:Type} {p:α->Bool}:∀{l:List α},(∀x∈l,p x=true)->l.dropWhile p=[]
 |[],_=>rfl
 |a::l,h=>by
  rw[List.dropWhile_cons,if_pos (h a (.head _))]
  exact jU λx hx=>h x (.tail _ hx)
theorem oA {α:Type} {p:α->Bool} {l:List α} (h:(l.dropWhile p).reverse.dropWhile p=[]):l.dropWhile p=[]:=by
 have h1:=iG h
 cases e:l.dropWhile p with
 |nil=>rfl
 |cons a r=>
  have h2:p a=true:=h1 a (by rw[e];simp)
  have h3:∀{l:List α},l.dropWhile p=a::r->p a=false:=by
   intro l
   induction l with
   |nil=>intro h;exact xA h
   |cons b l ih=>
    intro h
    rw[List.dropWhile_cons] at h
    split at h
    ·exact ih h
    ·rename_i hb
     cases h
     simpa using hb
  rw[h3 e] at h2
  exact d9 h2
theorem DM (b:Array UInt8):((fW b).toList !=(#[]:Array UInt8).toList)=(b.toList !=(Array.replicate b.size (0:UInt8)).toList):=by
 have p0:∀x:UInt8,(#[(0:UInt8)].contains x)=true<->x=0:=λx=>by simp
 have key:(fW b).toList=[]<->b.toList=(Array.replicate b.size (0:UInt8)).toList:=by
  have rep:b.toList=(Array.replicate b.size (0:UInt8)).toList<->∀x∈b.toList,x=0:=by
   rw[Array.toList_replicate,List.eq_replicate_iff]
   simp
  rw[rep]
  unfold fW
  dsimp only
  constructor
  ·intro h
   split at h
   ·rw[h]
    intro x hx
    cases hx
   ·have h:((b.toList.dropWhile (#[(0:UInt8)].contains)).reverse.dropWhile (#[(0:UInt8)].contains)).reverse=[]:=h
    replace h:=oA (List.reverse_eq_nil_iff.mp h)
    exact λx hx=>(p0 x).mp (iG h x hx)
  ·intro h
   have h1:b.toList.dropWhile (#[(0:UInt8)].contains)=[]:=jU λx hx=>(p0 x).mpr (h x hx)
   rw[h1]
   split
   ·rename_i he
    have he:(0==b.size)=true:=he
    have h0:0=b.size:=eq_of_beq he
    rw[Array.eq_empty_of_size_eq_zero h0.symm]
   ·rfl
 cases h1:((fW b).toList !=(#[]:Array UInt8).toList) with
 |false=>
  have h2:(fW b).toList=[]:=by simpa using h1
  have:=key.mp h2
  rw[<-this]
  simp
 |true=>
  have h2:¬(fW b).toList=[]:=by simpa using h1
  have h3:¬b.toList=(Array.replicate b.size (0:UInt8)).toList:=λe=>h2 (key.mpr e)
  exact(bne_iff_ne.mpr h3).symm
section
variable {w:World}
theorem MY {ih:Ih} (I:IhOk w rw1.prog ih)
  (C:Fx w fn A outer aZ base aY L p loose aC mg mb) (ac:fn.cs=none) {s:Shared} {b:List Stmt} (PE:PassesOwn (model rw1.prog w) A (fn.env L) E)
  (n:Now w G aY L loc st mm X aA s.heap) (ae:(adr X).Nodup) {gs:List Gr} (H:Hd w X gs) {pis:List (List Nat)} {st1:List SO} {gs1:List Addr->List (List SO)} {v:SV}
  (run:∀ρ,Runs (cX (lf ρ k pis []) (ih.S fn st loc b)) (some ⟨.ret v,st1,gs1 ρ,[]⟩))
  (kk:∀ρ aS aV aB h' aU u,Ext (adr aA) ρ->RV ρ v u->adr aB=(List.range k).map (λi=>ρ.getD i 0)->Now w G aY L [] (st1.map (cO ρ (List.range k))) aV aS aB h'->(adr aS).Nodup->
   Hd w aS (gs++(gs1 ρ).zip (pis.map (eY ρ)))->Q (.ret u) {s with heap:=h',toks:=aU}):
  wpAny (model rw1.prog w) A (execs b (fn.env L)) Q E s:=by
 refine I.S fn st loc b C ac (gG (f:=λρ=>lf ρ k pis []) (P:=λρ z=>z=some (⟨.ret v,st1,gs1 ρ,[]⟩:Lf)) [] λρ=>(run ρ).wp) PE n λf aT loc' fl aV aB h' aU hlf x n' hf=>?_
 have h1:=hlf (adr aB)
 unfold lf at h1
 refine jM h1 ?_;clear h1;intro ok h1
 simp only[bG] at ok
 injection h1 with h1
 injection h1 with e1 e2 e3 e4
 simp only at e1
 subst e1
 refine b7 hf λu z1 hu=>?_;clear hf;subst z1
 have hk':k<=aT.length:=by
  rcases Nat.eq_zero_or_pos k with z|z
  ·rw[z];exact Nat.zero_le _
  ·have h2:=ok.1
   unfold dC at h2
   simp only[bG] at h2
   have:=iV h2.1.1.1 (k-1) (List.mem_range.mpr (by omega))
   omega
 refine HZ (d7 n' ae ok.1 ok.2 H) λaS n2 nd2 sub H2 ea _=>?_
 rw[selSt_take hk'] at n2
 simp only at e2 e3
 rw[e2] at n2
 refine kk (adr aB) aS aV _ h' aU u x hu ea (n2.reloc λz v hz=>by exact b5 hz) nd2 ?_
 rw[tW,e3] at H2
 exact H2
end
end Mine.L
set_option backward.match.sparseCases false
set_option backward.match.sparseCases true
namespace Mine.L
open Mine Mine.R Mine.X
def Sh.by_ (sh:Sh) (l:List PS):Prop:=(sh.hasF=true->PS.dist∈l)/\(sh.hasR=true->PS.way∈l)
theorem Sh.by_snoc {sh sh':Sh} {l:List PS} {q:PS} (h:sh.by_ l) (f:sh.frm sh' q):sh'.by_ (l++[q]):=by
 refine⟨λe=>?_,λe=>?_⟩
 ·rcases f.1 e with h1|h1
  ·exact bK _ (h.1 h1)
  ·exact ay _ (by rw[h1];exact .head _)
 ·rcases f.2 e with h1|h1
  ·exact bK _ (h.2 h1)
  ·exact ay _ (by rw[h1];exact .head _)
def DJ (w:World) (wd:Wd) (aF:Bool) (s:LS) (aD:List (PS×List Addr)) (oth:List Gr) (rem:List Value) (loc:Loc) (st:List SO) (xs:dJ):Prop:=∃(done todo:List (PS×List Addr)) (b:Array UInt8) (fs:List (Fld×List Addr)) (sh:Sh),
 aD=done++todo/\rem=todo.map cF/\gM wd #[] [] (done.map (·.1))=.ok (b,fs.map (·.1))/\loc=fA wd aF b []/\st=gR s (fs.map λf=>cS f.2) sh.hl/\
 Hd w xs (aD.map pg++(fs.map (pW wd)++(sh.hgs++oth)))/\sh.by_ (done.map (·.1))
def DR (w:World) (wd:Wd) (s:LS) (aD:List (PS×List Addr)) (oth:List Gr) (u:Value) (st:List SO) (xs:dJ):Prop:=∃(er:Err) (t:Tok) (ffs hs:List Value),u=.str er.word t/\gM wd #[] [] (aD.map (·.1))=.error er/\st=gR s ffs hs/\Hd w xs (aD.map pg++oth)
theorem tD0 (s:LS) (aE:List Value):dC (s.sT++[.list (aE.map .lit)]) 23 []=true:=by kernel_rfl
section
variable {w:World}
theorem FM (C:Fx w (f6 (k+10)) A outer aZ base aY L p loose aC mg mb)
  {s0:Shared} {s:LS} {wd:Wd} {aF:Bool} {aD:List (PS×List Addr)} {oth:List Gr} (PE:PassesOwn (model rw1.prog w) A ((f6 (k+10)).env L) E)
  (n:Now w G aY L (fA wd aF #[] []) (gH s (aD.map cF) [] []) mm X aA s0.heap) (ae:(adr X).Nodup) (H:Hd w X (aD.map pg++oth)) (h5:aD.length<=5)
  (ao:∀b (fs:List (Fld×List Addr)) (sh:Sh) aV aS aB h' aU,gM wd #[] [] (aD.map (·.1))=.ok (b,fs.map (·.1))->adr aB=adr aA->
   Now w G aY L (fA wd aF b []) (gH s (aD.map cF) (fs.map λf=>cS f.2) sh.hl) aV aS aB h'->(adr aS).Nodup->
   Hd w aS (aD.map pg++(fs.map (pW wd)++(sh.hgs++oth)))->sh.by_ (aD.map (·.1))->Q .next {s0 with heap:=h',toks:=aU})
  (kret:∀er t loc' ffs hs aV aS aB h' aU,gM wd #[] [] (aD.map (·.1))=.error er->adr aB=adr aA->Now w G aY L loc' (gH s (aD.map cF) ffs hs) aV aS aB h'->(adr aS).Nodup->Hd w aS (aD.map pg++oth)->Q (.ret (.str er.word t)) {s0 with heap:=h',toks:=aU}):
  wpAny (model rw1.prog w) A (exec wE ((f6 (k+10)).env L)) Q E s0:=by
 have ac:(f6 (k+10)).cs=none:=rfl
 have hL:=C.c0 ac
 obtain⟨pos,hF⟩:=LL
 rw[hF]
 have hst0:(gH s (aD.map cF) [] []).set 22 .fz=gR s [] []:=rfl
 have hset:∀(ffs hs:List Value),(gR s ffs hs).set 22 (.list ((aD.map cF).map .lit))=gH s (aD.map cF) ffs hs:=λffs hs=>rfl
 refine uJ (us:=aD.map cF) (j:=22) C ac (s:=s0) PE n ae FA (E8 _ _ _ _ _ _) rfl (λrem loc st xs=>DJ w wd aF s aD oth rem loc st xs) (λu st xs=>DR w wd s aD oth u st xs) ?_ ?_ ?_ ?_ ?_ ?_
 ·rw[hst0]
  exact⟨[],aD,#[],[],.n,rfl,rfl,rfl,rfl,rfl,H,nofun,nofun⟩
 ·intro r loc st xs zz;refine q56 zz λdone todo b fs sh _ _ _ _ y9 _=>?_;clear zz;subst y9
  rfl
 ·intro u st xs zz;refine q44 zz λer t ffs hs _ _ y6 _=>?_;clear zz;subst y6
  rfl
 ·intro v r loc st xs aI aw its h1 aW G' zz e1 n1 nd1 Qb k1 k2;refine q57 zz λdone todo b fs sh hp hr hrun y8 y9 H1 hby=>?_;clear zz;subst y8 y9
  cases todo with
  |nil=>exact xA hr.symm
  |cons qa todo=>
  obtain⟨q,as⟩:=qa
  injection hr with hv hr
  have hlen:done.length+1<=5:=by
   have:=congrArg List.length hp
   simp at this
   omega
  obtain⟨sz1,sz2⟩:=iU hrun
  rw[bF,Array.size_empty,Nat.zero_add] at sz1
  rw[bF,bF,List.length_nil,Nat.zero_add] at sz2
  have hwn:=wd.n_le
  have hb:b.size+wd.n<=40:=by
   rw[sz1,show wd.n*done.length+wd.n=wd.n*(done.length+1) from by rw[Nat.mul_add,Nat.mul_one]]
   exact bl (Nat.mul_le_mul hwn hlen) (by decide)
  have hmap:aD.map pg=done.map pg++(q.grp,as)::todo.map pg:=by
   rw[hp,bH,bL]
   rfl
  have H2:Hd w (its++xs) ((j2 its::done.map pg)++(q.grp,as)::((todo.map pg++fs.map (pW wd))++(sh.hgs++oth))):=by
   have:=p4 nd1 H1
   rw[hmap] at this
   refine Hd.perm ?_ this
   simp only[bB,bk]
   exact .refl _
  refine FN (s0:={s0 with heap:=h1,toks:=aW}) (fl:=fs.map (·.1)) C PE n1 nd1 H2 hb (by rw[bF];omega) hv (λb' fn sh' aQ au aJ h2 aX hs e2 n2 nd2 H3 hfr=>?_) λer t loc2 aQ au aJ h2 aX hs e2 n2 nd2 H3=>?_
  ·obtain⟨xs3,n3,nd3,H4⟩:=kF n2 nd2 (λc hc=>by rw[hL] at hc;exact b5 hc) H3
   refine k1 .next _ _ aQ xs3 aJ h2 aX (.inl rfl) ⟨done++[(q,as)],todo,b',fs++fn,sh',by rw[hp];simp,hr,?_,rfl,?_,?_,?_⟩ (e2.trans e1) n3 nd3
   ·rw[bH,bH]
    exact r8 hrun hs
   ·rw[bH]
   ·refine Hd.perm ?_ H4
    rw[hmap,bH]
    simp only[bB,bk]
    exact .refl _
   ·rw[bH]
    exact Sh.by_snoc hby hfr
  ·obtain⟨xs3,n3,nd3,H4⟩:=kF n2 nd2 (λc hc=>by rw[hL] at hc;exact b5 hc) H3
   refine k2 _ _ _ aQ xs3 aJ h2 aX ⟨er,t,_,_,rfl,?_,rfl,?_⟩ (e2.trans e1) n3 nd3
   ·rw[hp,bH,bL]
    exact vG hrun hs
   ·refine Hd.right (a:=fs.map (pW wd)++sh.hgs) (Hd.perm ?_ H4)
    rw[hmap]
    have q1:(done.map pg++(q.grp,as)::(todo.map pg++fs.map (pW wd)++(sh.hgs++oth)))=(done.map pg++(q.grp,as)::todo.map pg)++((fs.map (pW wd)++sh.hgs)++oth):=by simp
    refine(List.Perm.of_eq q1).trans ?_
    exact nO _ _ _
 ·intro loc st aw xs aI h1 aW zz e1 n1 nd1;refine q57 zz λdone todo b fs sh hp hr hrun y8 y9 H1 hby=>?_;clear zz;subst y8 y9
  cases todo with
  |cons=>exact xA hr
  |nil=>
  rw[bQ] at hp
  subst hp
  exact ao b fs sh aw xs aI h1 aW hrun e1 n1 nd1 H1 hby
 ·intro u loc st aw xs aI h1 aW zz e1 n1 nd1;refine q44 zz λer t ffs hs y4 hrun y6 H1=>?_;clear zz;subst y4 y6
  exact kret er t loc ffs hs aw xs aI h1 aW hrun e1 n1 nd1 H1
theorem XD {s:LS} {aE:List Value} {ex:List SO} {h:Heap} (n:Now w G aY L loc (s.sT++[.list (aE.map .lit)]++ex) mm X aA h) (ae:(adr X).Nodup) {gs:List Gr} (H:Hd w X gs):
  ∃aS aB,Now w G aY L [] (cH s aE) mm aS aB h/\(adr aS).Nodup/\Hd w aS gs/\adr aB=(adr aA).take 23:=by
 have ok:dC (s.sT++[.list (aE.map .lit)]++ex) 23 []=true:=by
  rw[j7]
  exact tD0 s aE
 obtain⟨aS,n2,nd2,sub,H2,ea,_⟩:=d7 (n.reloc (loc':=[]) λx v h=>by exact b5 h) ae ok rfl H
 refine⟨aS,eD aA (List.range 23),?_,nd2,by simpa using H2,?_⟩
 ·rw[selSt_take (by rw[bI];exact Nat.le_add_right _ _)] at n2
  have n2:Now w G aY L [] ((cH s aE).map (cO (adr aA) (List.range 23))) mm aS (eD aA (List.range 23)) h:=n2
  rw[eE] at n2
  exact n2
 ·rw[ea]
  exact take_getD .rfl' (by simp only[adr,bF];rw[n.R.len,bI];exact Nat.le_add_right 23 _)
end
end Mine.L
set_option backward.match.sparseCases false
set_option backward.match.sparseCases true
namespace Mine.L
open Mine Mine.R Mine.X
theorem TU:∀{sh:Sh},sh.hgs.map (·.2)=sh.hpi.map (eY ρ)->sh.srtN.map (λi=>SV.lit (.ref (ρ.getD i 0)))=sh.srt.map .lit/\(sh.hg1++[([]:List SO)]).zip (sh.hpi.map (eY ρ)++[eY ρ sh.rP])=sh.hgs++[([],eY ρ sh.rP)]
 | .n,_=>⟨rfl,rfl⟩
 | .f a,e=>by
  have e1:a=eY ρ [25,26]:=(List.cons.inj e).1
  subst e1
  exact⟨rfl,rfl⟩
 | .r a,e=>by
  have e1:a=eY ρ [25,26]:=(List.cons.inj e).1
  subst e1
  exact⟨rfl,rfl⟩
 | .fr a b,e=>by
  have e1:a=eY ρ [25,26]:=(List.cons.inj e).1
  have e2:b=eY ρ [27,28]:=(List.cons.inj (List.cons.inj e).2).1
  subst e1 e2
  exact⟨rfl,rfl⟩
 | .rf b a,e=>by
  have e1:b=eY ρ [25,26]:=(List.cons.inj e).1
  have e2:a=eY ρ [27,28]:=(List.cons.inj (List.cons.inj e).2).1
  subst e1 e2
  exact⟨rfl,rfl⟩
theorem KW {α β:Type} {a:List α} {c d:α} {y:β}:∀{b:List β} {r:List (α×β)},(a++[c]).zip (b++[y])=r++[(c,y)]->a.length=b.length->(a++[d]).zip (b++[y])=r++[(d,y)]:=by
 intro b r h hl
 rw[List.zip_append hl] at h ⊢
 rw[List.append_cancel_right h]
 rfl
theorem Sh.hlen (sh:Sh):sh.hg1.length=(sh.hpi).length:=by cases sh<;>rfl
theorem Sh.rI_at (sh:Sh) (ρ:List Addr):(eY ρ sh.rP).getD 0 0=ρ.getD sh.rI 0:=by cases sh<;>rfl
theorem tD1 (s:LS) (aE ffs hs:List Value):dC (gH s aE ffs hs) 25 []=true:=by kernel_rfl
section
variable {w:World}
theorem rD6 {aF:Bool} {l:List Value} (s:LS) (aE hs:List Value) (wd:Wd) (b:Array UInt8) (k:Nat):(E0.T (f6 (k+10)) (gH s aE l hs) (fA wd aF b []) (fQ nH)).wp λy=>y.1=jX aF b l/\∃ex,y.2=gH s aE l hs++ex:=by
 cases aF with
 |false=>
  rw[aCH]
  exact⟨rfl,[],(bQ _).symm⟩
 |true=>
  cases l with
  |cons v r=>
   rw[aCI]
   exact⟨rfl,_,rfl⟩
  |nil=>
   rw[aCJ]
   refine⟨λ_=>⟨?_,_,rfl⟩,λe=>by exact d9 e.symm⟩
   show _=jX true b ([]:List Value)
   rw[DM]
   rfl
theorem FK {k:Nat} (hdn:fn.dn=k+20) (ac:fn.cs=none) (C:Fx w fn A outer aZ base aY L p loose aC mg mb)
  {s0:Shared} {s:LS} {wd:Wd} {aD:List (PS×List Addr)} {aF:Bool} {oth:List Gr} {R:Result->Shared->Prop}
  (n:Now w G aY L loc (cH s (aD.map cF)) mm X aA s0.heap) (ae:(adr X).Nodup) (H:Hd w X (aD.map pg++oth)) (h5:aD.length<=5)
  (hv:RVs (adr aA) [.obj 22,.int wd.n,.bool aF] us)
  (ao:∀b (fs:List (Fld×List Addr)) (sh:Sh) (da:List Addr) aS aB h' aU,iA wd aF (aD.map (·.1))=.ok (b,fs.map (·.1))->adr aB=adr aA->Now w G aY L loc (cH s (aD.map cF)) mm aS aB h'->(adr aS).Nodup->
   Hd w aS (aD.map pg++(fs.map (pW wd)++(sh.hgs++((jV b (fs.map λf=>cS f.2) sh.srt,da)::oth))))->sh.by_ (aD.map (·.1))->R (.ok (.ret (cS da))) {s0 with heap:=h',toks:=aU})
  (ap:∀er t aS aB h' aU,iA wd aF (aD.map (·.1))=.error er->adr aB=adr aA->Now w G aY L loc (cH s (aD.map cF)) mm aS aB h'->(adr aS).Nodup->Hd w aS (aD.map pg++oth)->R (.ok (.ret (.str er.word t))) {s0 with heap:=h',toks:=aU}):
  codeAny (model rw1.prog w) A (.call (.ref 1024) ⟨us,[]⟩) R s0:=by
 have hL:=C.c0 ac
 have hd:=C.hd
 have hu:=C.hu
 rw[hdn] at hd hu
 refine fT (k:=k+10) rfl (qN w) C.B C.X C.T C.hA rfl C.hk C.hh (by omega) (by omega) n hv rfl ?_
 intro g L' h1 aW aw aI x1 FG C' n1 Q' E' hQ PE hE
 have n1:Now w G g L' (yN wd aF) (rU s (aD.map cF)) aw X aI h1:=by
  have q1:m8 r1024_3 [.obj 22,.int wd.n,.bool aF] (cH s (aD.map cF)).length=yN wd aF:=by kernel_rfl
  have q2:cH s (aD.map cF)++j3 r1024_3=cH s (aD.map cF):=by
   rw[show j3 r1024_3=[] from by kernel_rfl,bQ]
  rw[q1,q2] at n1
  exact n1
 have hL':=C'.c0 rfl
 have hnl:aA.length=23:=n.R.len
 have ea1:adr aI=adr aA:=cM x1 n.R n1.R
 have hal:(adr aA).length=23:=by simp[adr,hnl]
 rw[LK]
 show wpAny _ _ (execs ([dS0]++[wE,_,_]) _) _ _ _
 refine dS ?_
 refine nA (ih:=E0) (s:={s0 with heap:=h1,toks:=aW}) (I0 w) C' rfl (loc:=yN wd aF) (st:=rU s (aD.map cF)) (b:=[dS0]) PE n1 ae H (k:=25) (pis:=[]) (ns:=eA) (st1:=s.sT++[.list ((aD.map cF).map .lit),.list [],.list []]) (gs1:=λ_=>[]) (vs:=[.obj 22,.int wd.n,.bool aF,.bytes 0 #[],.obj 23,.obj 24]) rfl (λρ=>.ret (rD8 ρ s _ wd aF k)) λρ au aQ aJ h2 aX x2 ea2 n2 nd2 H2=>?_
 have e23:(adr aJ).take 23=adr aA:=by
  rw[ea2]
  have h23:(List.range 23).map (λi=>ρ.getD i 0)=adr aA:=by
   rw[take_getD x2 (by simp[adr,n1.R.len];show 23<=23;omega),ea1,<-hal,bj]
  rw[<-h23,<-List.map_take]
  rfl
 have n3:Now w G g L' (fA wd aF #[] []) (gH s (aD.map cF) [] []) aQ au aJ h2:=by
  have e:(s.sT++[SO.list ((aD.map cF).map .lit),.list [],.list []]).map (cO ρ (List.range 25))=s.sT++[.list ((aD.map cF).map .lit),.list [],.list []]:=by
   rw[bH,LS.sel s (by omega)]
   have a1:∀l:List Value,cO ρ (List.range 25) (.list (l.map .lit))=.list (l.map .lit):=λl=>by
    show SO.list _=_
    rw[cY]
   simp only[bL,bf]
   rw[a1]
   rfl
  rw[e] at n2
  have n3:=Now.weak n2 (i:=23) (so:=.list []) (so':=.listB 5 []) rfl (λρ a o h=>⟨h,Nat.zero_le _⟩)
  have n4:=gU n3 (x:="octets") (m:=0) (m':=40) (b:=#[]) rfl (by decide)
  have eL:jG (fD ρ 25 eA [.obj 22,.int wd.n,.bool aF,.bytes 0 #[],.obj 23,.obj 24]) "octets" (.bytes 40 #[])=fA wd aF #[] []:=by
   have h1:jG (fD ρ 25 eA [.obj 22,.int wd.n,.bool aF,.bytes 0 #[],.obj 23,.obj 24]) "octets" (.bytes 40 #[])=([("parts",cD ρ (List.range 25) (.obj 22)),("width",.int wd.n),("is_empty",.bool aF),("octets",.bytes 40 #[]),("fields",cD ρ (List.range 25) (.obj 23)),("hidden",cD ρ (List.range 25) (.obj 24))]:Loc):=rfl
   rw[h1,b0 (by omega),b0 (by omega),b0 (by omega)]
   rfl
  rw[eL] at n4
  exact n4
 have H3:Hd w au (aD.map pg++oth):=by simpa using H2
 have back:∀{er:Err} {t:Tok} {loc':Loc} {ffs hs:List Value} {ex:List SO} {mm5:Str->Option Value} {xs5 aM:dJ} {h5:Heap} {tk5:Nat} {gs:List Gr},iA wd aF (aD.map (·.1))=.error er->(adr aM).take 23=adr aA->Now w G g L' loc' (gH s (aD.map cF) ffs hs++ex) mm5 xs5 aM h5->(adr xs5).Nodup->Hd w xs5 (aD.map pg++oth)->
   ∃(L₂:Addr) (m':Str->Option Value) (nw:List (Addr×Obj)),Fr g L₂ h5 m'/\News g L₂ h5 nw/\(Fr aY L.a h5 mm->News aY L.a h5 nw->R (.ok (.ret (.str er.word t))) {s0 with heap:=h5,toks:=tk5}):=by
  intro er t loc' ffs hs ex mm5 xs5 aM h5 tk5 gs hr e5 n5 nd5 H5
  have n5:Now w G g L' loc' (s.sT++[.list ((aD.map cF).map .lit)]++([.listB 5 (ffs.map .lit),.list (hs.map .lit)]++ex)) mm5 xs5 aM h5:=n5
  refine kS (XD n5 nd5 H5) λxs6 aN n6 nd6 H6 ea6=>?_
  have ea:adr aN=adr aA:=ea6.trans e5
  exact jY hL n6 (λy v hy=>by rw[ea];exact n.V y v hy) λn10=>ap er t xs6 aN h5 tk5 hr ea n10 nd6 H6
 have take23:∀{a b:List Addr},a=b->b.take 23=adr aA->a.take 23=adr aA:=λh1 h2=>by rw[h1];exact h2
 refine wpAny_execs_cons (FM (s0:={s0 with heap:=h2,toks:=aX}) C' PE n3 nd2 H3 h5 (λb fs sh mm5 xs5 aM h5' tk5 hrun e5 n5 nd5 H5 hby=>?_) λer t loc' ffs hs mm5 xs5 aM h5' tk5 hrun e5 n5 nd5 H5=>?_)
 ·have hH5:Hd w xs5 (aD.map pg++oth):=by
   refine Hd.right (a:=fs.map (pW wd)++sh.hgs) (Hd.perm ?_ H5)
   have q1:aD.map pg++(fs.map (pW wd)++(sh.hgs++oth))=aD.map pg++((fs.map (pW wd)++sh.hgs)++oth):=by simp
   rw[q1]
   exact nO _ _ _
  have hlay:∀{x},jX aF b (fs.map λf=>cS f.2)=x->jX aF b (fs.map (·.1))=x:=fun{x} h=>by rw[uS] at h ⊢;exact h
  refine wpAny_execs_cons (wpAny_If ((I0 w).T (f6 (k+10)) (gH s (aD.map cF) (fs.map λf=>cS f.2) sh.hl) (fA wd aF b []) (fQ nH) C' (rD6 _ _ _ _ _ _) n5 λv6 st6 aN h6 tk6 af x6 n6=>?_))
  obtain⟨hv6,z1⟩:=af
  obtain⟨ex,hex⟩:=z1
  simp only at hv6 hex
  subst hv6;replace n6:=hex▸n6
  have e6:(adr aN).take 23=adr aA:=by
   obtain⟨t,et⟩:=x6
   rw[et,bu (by rw[e5];simp[adr,n3.R.len];show 23<=25;omega),e5]
   exact e23
  cases hl:jX aF b (fs.map λf=>cS f.2) with
  |true=>
   simp only[if_true]
   refine(I0 w).Sq (f6 (k+10)) (gH s (aD.map cF) (fs.map λf=>cS f.2) sh.hl++ex) (fA wd aF b []) [FD] C' rfl (f:=.ret (.str DB)) (aT:=gH s (aD.map cF) (fs.map λf=>cS f.2) sh.hl++ex) (loc':=fA wd aF b []) (by rw[aCF];exact rfl) PE n6 λfl7 mm7 aO h7 tk7 x7 n7 hf=>?_
   refine b7 hf λu z1 z2=>?_;clear hf;subst z1
   obtain⟨t,rfl⟩:=z2
   refine hQ _ _ (back (er:=.lay) (gs:=[]) ?_ (take23 (cM x7 n6.R n7.R) e6) n7 nd5 hH5)
   unfold iA
   rw[hrun]
   simp only
   rw[if_pos (hlay hl)]
  |false=>
   simp only[bW,if_false]
   refine wpAny_execs_nil ?_
   have ok25:dC (gH s (aD.map cF) (fs.map λf=>cS f.2) sh.hl++ex) 25 []=true:=by
    rw[j7,bu (by show 25<=25;omega)]
    exact tD1 _ _ _ _
   refine HZ (d7 n6 nd5 ok25 rfl H5) λxs7 n7 nd7 _ H7 ea7 _=>?_
   have n7:Now w G g L' (fA wd aF b []) (s.sT++[.list ((aD.map cF).map .lit),.listB 5 ((fs.map λf=>cS f.2).map .lit),.list (sh.hl.map .lit)]) mm5 xs7 (eD aN (List.range 25)) h6:=by
    rw[selSt_take (by rw[bI];exact Nat.le_add_right 25 _),bu (by show 25<=25;omega)] at n7
    have q1:fJ (adr aN) (List.range 25) (fA wd aF b [])=fA wd aF b []:=by
     have h1:fJ (adr aN) (List.range 25) (fA wd aF b [])=([("parts",cD (adr aN) (List.range 25) (.obj 22)),("width",.int wd.n),("is_empty",.bool aF),("octets",.bytes 40 b),("fields",cD (adr aN) (List.range 25) (.obj 23)),("hidden",cD (adr aN) (List.range 25) (.obj 24))]:Loc):=rfl
     rw[h1,b0 (by omega),b0 (by omega),b0 (by omega)]
     rfl
    have q2:((gH s (aD.map cF) (fs.map λf=>cS f.2) sh.hl).take 25).map (cO (adr aN) (List.range 25))=s.sT++[.list ((aD.map cF).map .lit),.listB 5 ((fs.map λf=>cS f.2).map .lit),.list (sh.hl.map .lit)]:=by
     have:(gH s (aD.map cF) (fs.map λf=>cS f.2) sh.hl).take 25=gH s (aD.map cF) (fs.map λf=>cS f.2) sh.hl:=rfl
     rw[this]
     unfold gH
     rw[bH,LS.sel s (by omega)]
     congr 1
     simp only[bL,bf]
     have a1:∀l:List Value,cO (adr aN) (List.range 25) (.list (l.map .lit))=.list (l.map .lit):=λl=>by
      show SO.list _=_
      rw[cY]
     have a2:∀l:List Value,cO (adr aN) (List.range 25) (.listB 5 (l.map .lit))=.listB 5 (l.map .lit):=λl=>by
      show SO.listB 5 _=_
      rw[cY]
     rw[a1,a2,a1]
    rw[q1,q2] at n7
    exact n7
   have e7:(adr (eD aN (List.range 25))).take 23=adr aA:=by
    rw[ea7,<-e6,<-List.map_take]
    have l6:23<=(adr aN).length:=by
     have:=congrArg List.length e6
     rw[List.length_take,hal] at this
     omega
    exact take_getD (l:=adr aN) (ρ:=adr aN) (k:=23) .rfl' l6
   have H8:Hd w xs7 ((aD.map pg++(fs.map (pW wd)++oth))++sh.hgs):=by
    refine Hd.perm ?_ (show Hd w xs7 ((aD.map pg++(fs.map (pW wd)++(sh.hgs++oth)))) from by simpa using H7)
    simp only[bB]
    exact bJ _ (bJ _ bM)
   refine kS (mU hL' n7 nd7 H8) λX9 g9 n9 nd9 H9 hpi=>?_
   refine MY (ih:=E0) (s:={s0 with heap:=h6,toks:=tk6}) (I0 w) C' rfl (loc:=fA wd aF b []) (st:=NQ s (aD.map cF) (fs.map λf=>cS f.2) sh) (b:=[FE]) PE n9 nd9 H9 (k:=23) (pis:=sh.hpi++[sh.rP]) (st1:=rU s (aD.map cF)) (v:=.obj sh.rI) (λρ=>.ret (rD9 ρ s _ _ sh wd aF b k)) λρ xs10 mm10 news10 h10 tk10 u x10 hu e10 n10 nd10 H10=>?_
   have hp:=hpi ρ x10
   obtain⟨hs1,hz⟩:=TU hp
   rw[hs1,cY,bH,show [sh.rP].map (eY ρ)=[eY ρ sh.rP] from rfl,KW hz (by rw[bF];exact sh.hlen)] at H10
   have hu':u=cS (eY ρ sh.rP):=by
    refine b7 hu λa ha z1=>?_;clear hu;subst z1
    unfold cS
    rw[sh.rI_at,bC,ha]
    rfl
   subst hu'
   have x7:Ext (adr (eD aN (List.range 25))) ρ:=by
    obtain⟨t,et⟩:=x10
    exact⟨adr g9++t,by rw[et,lO,bB]⟩
   have l7:23<=(adr (eD aN (List.range 25))).length:=by
    rw[ea7];simp
   have ea10:adr news10=adr aA:=by
    rw[e10,take_getD x7 l7,e7]
   have n10:Now w G g L' [] (cH s (aD.map cF)) mm10 xs10 news10 h10:=by
    rw[show rU s (aD.map cF)=cH s (aD.map cF) from rfl,eE] at n10
    exact n10
   refine hQ _ _ (jY hL n10 (λy v hy=>by rw[ea10];exact n.V y v hy) λn11=>ao b fs sh (eY ρ sh.rP) xs10 news10 h10 tk10 ?_ ea10 n11 nd10 (Hd.perm ?_ H10) hby)
   ·unfold iA
    rw[hrun]
    simp only
    rw[if_neg (by rw[hlay hl];decide)]
   ·show(aD.map pg++(fs.map (pW wd)++oth)++(sh.hgs++[(jV b (fs.map λf=>cS f.2) sh.srt,eY ρ sh.rP)])).Perm _
    simp only[bB]
    refine bJ _ (bJ _ (bM.trans ?_))
    simp
 ·have n5':Now w G g L' loc' (gH s (aD.map cF) ffs hs++[]) mm5 xs5 aM h5':=by rw[bQ];exact n5
  exact hQ _ _ (back (gs:=[]) (by unfold iA;rw[hrun]) (take23 e5 e23) n5' nd5 H5)
end
end Mine.L
set_option backward.match.sparseCases false
namespace Mine.L
open Mine Mine.R Mine.X
abbrev b4 (fa:Addr) (cdv:Value) (k:Nat):Fn:=⟨lawD.name,lawD.scope,fa,cdv,k,none⟩
noncomputable def dA (more:Loc):Loc:=("width",.cell 0)::("collector",.cell 1)::("cells",.cell 2)::("told",.obj 20)::("known",.obj 21)::more
noncomputable def zM {α:Type} (d:α):List α->Nat->α
 |[],_=>d
 |x::_,0=>x
 |_::r,n+1=>zM d r n
def vT:Stmt:=zM (.Pass default) lawD.body 5
def AB:List Stmt:=match vT with| .For _ _ b _ _=>b|_=>[]
def aCj:Expr:=match vT with| .For t _ _ _ _=>t|_=>.Constant .none 0 default
def sG:Expr:=match vT with| .For _ i _ _ _=>i|_=>.Constant .none 0 default
def tS (i:Nat):Stmt:=zM (.Pass default) AB i
noncomputable def FJ (cs:List Int) (m:Int):Int:=match cs with
 |[]=>0
 |c::_=>Int.fmod (if c<0 then -c else c) m
theorem QE (cs:List Int) {m:Int} (h:0<m):0<=FJ cs m/\FJ cs m<m:=by
 cases cs with
 |nil=>exact⟨Int.le_refl _,h⟩
 |cons c r=>
  show 0<=Int.fmod _ m/\Int.fmod _ m<m
  rw[Int.fmod_eq_emod_of_nonneg _ (Int.le_of_lt h)]
  exact⟨Int.emod_nonneg _ (by omega),Int.emod_lt_of_pos _ h⟩
theorem iT {α:Type} {cs:List Int} {m:Nat} {f:Nat->Tr α} {φ:α->Prop} (hm:0<m) (h:∀i,i<m->(f i).wp φ):(jL (FJ cs m) m 0 f).wp φ:=by
 obtain⟨a,b⟩:=QE cs (m:=(m:Int)) (by omega)
 exact vC (by omega) (by omega) λi _ _ hi=>h i (by omega)
noncomputable def UC:Nat->Wd
 |0=>.b
 |1=>.w
 |2=>.l
 |_=>.q
noncomputable def tN0:List Str:=["width","collector","cells","told","known","is_empty"]
noncomputable def tV0 (aF:Bool):List SV:=[.cell 0,.cell 1,.cell 2,.obj 20,.obj 21,.bool aF]
theorem rL0 (ρ:List Addr) (s:LS) (cs:List Int) (v:SV) (fa:Addr) (cdv:Value) (k:Nat):
  cX (lf ρ 22 [] tN0) (E0.S (b4 fa cdv (k+60)) ({s with cells:=cs}:LS).sT (dA [("turn",v)]) [tS 0])=
   jL (FJ cs 4) 4 0 λi=>jL (FJ cs.tail 3) 3 0 λj=>.ret (some ⟨.next,({s with wd:=some (UC i).n,cells:=cs.tail.tail}:LS).sT,[],(tV0 (Nat.beq j 2)).map some⟩):=by
 rcases cs with _|⟨c,_|⟨d,r⟩⟩<;>kernel_rfl
section
variable {w:World}
theorem sB {ih:Ih} (I:IhOk w rw1.prog ih)
  (C:Fx w fn A outer aZ base aY L p loose aC mg mb) (ac:fn.cs=none) {b:List Stmt} (PE:PassesOwn (model rw1.prog w) A (fn.env L) E)
  (n:Now w G aY L loc st mm X aA s.heap) (ae:(adr X).Nodup) {gs:List Gr} (H:Hd w X gs) {pis:List (List Nat)} {ns:List Str} {ι:Type} {st1:ι->List SO} {gs1:ι->List Addr->List (List SO)} {vs:ι->List SV} (hc:∀i,(vs i).all (eW k)=true)
  (run:∀ρ,(cX (lf ρ k pis ns) (ih.S fn st loc b)).wp λz=>∃i,z=some ⟨.next,st1 i,gs1 i ρ,(vs i).map some⟩)
  (kk:∀i ρ aS aV aB h' aU,Ext (adr aA) ρ->adr aB=(List.range k).map (λi=>ρ.getD i 0)->Now w G aY L (fD ρ k ns (vs i)) ((st1 i).map (cO ρ (List.range k))) aV aS aB h'->(adr aS).Nodup->
   Hd w aS (gs++(gs1 i ρ).zip (pis.map (eY ρ)))->Q .next {s with heap:=h',toks:=aU}):
  wpAny (model rw1.prog w) A (execs b (fn.env L)) Q E s:=by
 refine I.S fn st loc b C ac (gG (f:=λρ=>lf ρ k pis ns) (P:=λρ z=>∃i,z=some (⟨.next,st1 i,gs1 i ρ,(vs i).map some⟩:Lf)) [] λρ=>run ρ) PE n λf aT loc' fl aV aB h' aU hlf x n' hf=>?_
 obtain⟨i,h1⟩:=hlf (adr aB)
 unfold lf at h1
 refine jM h1 ?_;clear h1;intro ok h1
 simp only[bG] at ok
 injection h1 with h1
 injection h1 with e1 e2 e3 e4
 simp only at e1
 subst e1
 cases hf
 have hk':k<=aT.length:=by
  rcases Nat.eq_zero_or_pos k with z|z
  ·rw[z];exact Nat.zero_le _
  ·have h2:=ok.1
   unfold dC at h2
   simp only[bG] at h2
   have:=iV h2.1.1.1 (k-1) (List.mem_range.mpr (by omega))
   omega
 refine HZ (d7 n' ae ok.1 ok.2 H) λaS n2 nd2 sub H2 ea _=>?_
 rw[selSt_take hk'] at n2
 simp only at e2 e3 e4
 rw[e2] at n2
 refine kk i (adr aB) aS aV _ h' aU x ea (n2.reloc λz v hz=>o8 e4 (hc i) hz) nd2 ?_
 rw[tW,e3] at H2
 exact H2
theorem GP {fa:Addr} {cdv:Value}
  (C:Fx w (b4 fa cdv (k+60)) A outer aZ base aY L p loose aC mg mb) {s0:Shared} {s:LS} {v:SV} (PE:PassesOwn (model rw1.prog w) A ((b4 fa cdv (k+60)).env L) E)
  (n:Now w G aY L (dA [("turn",v)]) s.sT mm X aA s0.heap) (ae:(adr X).Nodup) {gs:List Gr} (H:Hd w X gs)
  (kk:∀(wd:Wd) (aF:Bool) (cs:List Int) aS aV aB h' aU,adr aB=adr aA->Now w G aY L (dA [("is_empty",.bool aF)]) ({s with wd:=some wd.n,cells:=cs}:LS).sT aV aS aB h'->(adr aS).Nodup->Hd w aS gs->Q .next {s0 with heap:=h',toks:=aU}):
  wpAny (model rw1.prog w) A (execs [tS 0] ((b4 fa cdv (k+60)).env L)) Q E s0:=by
 refine sB (ih:=E0) (ι:=Nat×Nat) (I0 w) C rfl (s:=s0) (loc:=dA [("turn",v)]) (st:=s.sT) (b:=[tS 0]) PE n ae H (k:=22) (pis:=[]) (ns:=tN0) (st1:=λi=>({s with wd:=some (UC i.1).n,cells:=s.cells.tail.tail}:LS).sT) (gs1:=λ_ _=>[]) (vs:=λi=>tV0 (Nat.beq i.2 2)) (λi=>rfl) (λρ=>?_) λi ρ xs3 mm3 aK h3 tk3 x3 ea3 n3 nd3 H3=>?_
 ·rw[show cX (lf ρ 22 [] tN0) (E0.S (b4 fa cdv (k+60)) s.sT (dA [("turn",v)]) [tS 0])=_ from rL0 ρ s s.cells v fa cdv k]
  exact iT (m:=4) (by decide) λi _=>iT (m:=3) (by decide) λj _=>⟨(i,j),rfl⟩
 ·rw[LS.sel _ (by omega)] at n3
  refine kk (UC i.1) (Nat.beq i.2 2) s.cells.tail.tail xs3 mm3 aK h3 tk3 ?_ ?_ nd3 (by simpa using H3)
  ·have hl:(adr aA).length=22:=by simp only[adr,bF];exact n.R.len
   rw[ea3,take_getD x3 (by omega),<-hl,bj]
  ·have h1:fD ρ 22 tN0 (tV0 (Nat.beq i.2 2))=([("width",.cell 0),("collector",.cell 1),("cells",.cell 2),("told",cD ρ (List.range 22) (.obj 20)),("known",cD ρ (List.range 22) (.obj 21)),("is_empty",.bool (Nat.beq i.2 2))]:Loc):=rfl
   rw[h1,b0 (by omega),b0 (by omega)] at n3
   exact n3
end
end Mine.L
namespace Mine.R
open Mine Mine.X Mine.L
noncomputable def lL (ρ:List Addr):SV->SV
 | .obj i=>.lit (.ref (ρ.getD i 0))
 |v=>v
noncomputable def gK (n:Nat):SV->Bool
 | .obj i=>Nat.blt i n
 | .cell _=>false
 |_=>true
def uU (ρ:List Addr) (es:List (Str×SV)):List (Str×SV):=es.map λp=>(p.1,lL ρ p.2)
def NW (ρ:List Addr):SO->SO
 | .ud es=>.ud (uU ρ es)
 | .dict es=>.dict (uU ρ es)
 | .list vs=>.list (vs.map (lL ρ))
 | .listB k vs=>.listB k (vs.map (lL ρ))
 | .tup vs=>.tup (vs.map (lL ρ))
 |so=>so
def DT (n:Nat):SO->Bool
 | .ud es=>es.all λp=>gK n p.2
 | .dict es=>es.all λp=>gK n p.2
 | .list vs=>vs.all (gK n)
 | .listB k vs=>vs.all (gK n)
 | .tup vs=>vs.all (gK n)
 |so=>true
theorem wX {v:SV} (h:RV ρ v u):RV ρ (lL ρ v) u:=by
 cases v with
 |obj i=>
  refine b7 h λa h e=>?_
  show u=.ref (ρ.getD i 0)
  rw[bC,h,e]
  rfl
 |cell=>exact h.elim
 |_=>exact h
theorem wW {v:SV} (ok:gK ρ.length v=true) (h:RV ρ (lL ρ v) u):RV ρ v u:=by
 cases v with
 |obj i=>
  have hi:i<ρ.length:=bA ok
  have h:u=.ref (ρ.getD i 0):=h
  refine⟨ρ[i],bR hi,?_⟩
  rw[h,bC,bR hi]
  rfl
 |cell=>exact h.elim
 |_=>exact h
theorem tB {v:List SV} {u:List Value} (h:RVs ρ v u):RVs ρ (v.map (lL ρ)) u:=All2.mapl (λ_ _ a=>wX a) h
theorem tA {v:List SV} {u:List Value} (o:v.all (gK ρ.length)=true) (h:RVs ρ (v.map (lL ρ)) u):RVs ρ v u:=All2.unmap (P:=RV ρ) (f:=lL ρ) (p:=gK ρ.length) (λ_ _ o a=>wW o a) o h
theorem QY {v:List (Str×SV)} {u:List (Str×Value)} (h:RK ρ v u):RK ρ (uU ρ v) u:=All2.mapl (λ_ _ a=>⟨a.1,wX a.2⟩) h
theorem QX {v:List (Str×SV)} {u:List (Str×Value)} (o:(v.all λp=>gK ρ.length p.2)=true) (h:RK ρ (uU ρ v) u):RK ρ v u:=All2.unmap (P:=fun(x:Str×SV) (e:Str×Value)=>x.1=e.1/\RV ρ x.2 e.2) (f:=λp:Str×SV=>(p.1,lL ρ p.2)) (p:=λp=>gK ρ.length p.2) (λ_ _ o a=>⟨a.1,wW o a.2⟩) o h
theorem QW {P:Params} {v:List (Str×SV)} {u:List DictEntry} (h:RE P ρ v u):RE P ρ (uU ρ v) u:=RE.map (f:=lL ρ) (λh=>wX h) h
theorem QV {P:Params} {v:List (Str×SV)} {u:List DictEntry} (o:(v.all λp=>gK ρ.length p.2)=true) (h:RE P ρ (uU ρ v) u):RE P ρ v u:=All2.unmap (P:=fun(x:Str×SV) (e:DictEntry)=>∃tk u,e=⟨PyData.keyHash P x.1,.str x.1 tk,u⟩/\RV ρ x.2 u) (f:=λp:Str×SV=>(p.1,lL ρ p.2)) (p:=λp=>gK ρ.length p.2) (λ_ _ o a=>iJ a λt u e h=>⟨t,u,e,wW o h⟩) o h
section
variable {w:World}
theorem wV {a:Addr} {so:SO} {o:Obj} (h:RO w G ρ a so o):RO w G ρ a (NW ρ so) o:=by
 cases so with
 |ud=>exact b7 h λn h e=>⟨n,QY h,e⟩
 |dict=>exact b7 h λn h e=>⟨n,QW h,by rw[e];unfold uU;rw[bF]⟩
 |list=>exact iJ h λw n h e=>⟨w,n,tB h,e⟩
 |listB=>exact⟨iJ h.1 λw n h e=>⟨w,n,tB h,e⟩,by rw[bF];exact h.2⟩
 |tup=>exact iJ h λw n h e=>⟨w,n,tB h,e⟩
 |_=>exact h
theorem wU {a:Addr} {so:SO} {o:Obj} (ok:DT ρ.length so=true) (h:RO w G ρ a (NW ρ so) o):RO w G ρ a so o:=by
 cases so with
 |ud=>exact b7 h λn h e=>⟨n,QX ok h,e⟩
 |dict=>exact b7 h λn h e=>⟨n,QV ok h,by rw[e];unfold uU;rw[bF]⟩
 |list=>exact iJ h λw n h e=>⟨w,n,tA ok h,e⟩
 |listB=>exact⟨iJ h.1 λw n h e=>⟨w,n,tA ok h,e⟩,by have:=h.2;rw[bF] at this;exact this⟩
 |tup=>exact iJ h λw n h e=>⟨w,n,tA ok h,e⟩
 |_=>exact h
theorem Now.relit {h:Heap} (n:Now w G aY L loc st mm xs aA h) {i:Nat} {so:SO} (so':SO) (hi:st[i]? =some so) (ok:DT st.length so'=true) (e:NW (adr aA) so'=NW (adr aA) so):Now w G aY L loc (st.set i so') mm xs aA h:=
 Mine.L.Now.weakA n hi λa o h=>wU (by rw[show(adr aA).length=st.length from by simp only[adr,bF];exact n.R.len];exact ok) (by rw[e];exact wV h)
noncomputable def dU:Nat->List Gr->List SO
 |_,[]=>[]
 |n,p::r=>p.1.map (lG n)++dU (n+p.1.length) r
theorem Hd.focusL:∀(ps:List Gr) {xs:dJ} {gs:List Gr} (H:Hd w xs (ps++gs)) {G:Addr->Obj} {aY:Heap} {L:FL} {loc:Loc} {st:List SO} {mm:Str->Option Value} {aA:dJ} {h:Heap} (n:Now w G aY L loc st mm xs aA h) (hL:L.c=none) (nd:(Mine.adr xs).Nodup),
  ∃aS aB,Now w G aY L loc (st++dU st.length ps) mm aS aB h/\(Mine.adr aS).Nodup/\Hd w aS gs/\Mine.adr aB=Mine.adr aA++ps.flatMap (·.2)/\(∀p∈ps,p.2.length=p.1.length)
 |[],xs,gs,H,G,aY,L,loc,st,mm,aA,h,n,hL,nd=>⟨xs,aA,by unfold dU;rw[bQ];exact n,nd,H,by simp,nofun⟩
 |p::r,xs,gs,H,G,aY,L,loc,st,mm,aA,h,n,hL,nd=>by
  obtain⟨g,e1,Rg,n2,nd2,H2⟩:=Hd.focus (gs₁:=[]) H n (λc hc=>by rw[hL] at hc;exact b5 hc) nd
  refine OV (Hd.focusL r H2 n2 hL nd2) λaS aB n3 nd3 H3 e3 l3=>?_
  refine⟨aS,aB,?_,nd3,H3,?_,λq hq=>?_⟩
  ·rw[bI,bF,bB] at n3
   exact n3
  ·rw[e3,lO,e1,bB]
   rfl
  ·rcases bX.mp hq with e|e
   ·subst e
    rw[<-e1]
    simp only[Mine.adr,bF]
    exact Rg.len
   ·exact l3 q e
end
def lD (m:Nat):SO->Bool
 | .inst _ d=>Nat.blt d m
 | .fz=>false
 | .pud _=>false
 | .cell _=>false
 |so=>DT m so
noncomputable def OU:Nat->List Gr->List (List Nat)
 |_,[]=>[]
 |n,p::r=>List.range' n p.1.length::OU (n+p.1.length) r
theorem mL {n m i:Nat} (h:i<m):dP (List.range' n m) (n+i) 0=some i:=by
 cases e:dP (List.range' n m) (n+i) 0 with
 |none=>exact absurd (List.mem_range'_1.mpr ⟨Nat.le_add_right _ _,by omega⟩) (hM e)
 |some j=>
  refine b7 (eQ e) λq h1 h2=>?_
  rw[Nat.zero_add] at h1
  subst h1
  have hj:j<(List.range' n m).length:=by
   rcases be j (List.range' n m).length with q|q
   ·exact q
   ·rw[bP q] at h2;exact b5 h2
  rw[bR hj,List.getElem_range'] at h2
  have:=bS h2
  congr 1
  omega
theorem zZ {n m:Nat}:∀{v:SV},gK m v=true->cD ρ (List.range' n m) (qX n v)=v
 | .none,_=>rfl
 | .bool _,_=>rfl
 | .int _,_=>rfl
 | .str _,_=>rfl
 | .bytes _ _,_=>rfl
 | .lit _,_=>rfl
 | .obj i,h=>by
  show(match dP (List.range' n m) (n+i) 0 with|some k=>SV.obj k|none=>_)=_
  rw[mL (bA h)]
theorem qW {n m:Nat} {l:List SV} (h:l.all (gK m)=true):(l.map (qX n)).map (cD ρ (List.range' n m))=l:=by
 rw[List.map_map]
 conv=>rhs;rw[<-List.map_id l]
 exact List.map_congr_left λv hv=>zZ (bO.mp h v hv)
theorem zW {n m:Nat} {l:List (Str×SV)} (h:(l.all λp=>gK m p.2)=true):eV ρ (List.range' n m) (KZ n l)=l:=by
 delta eV KZ
 rw[List.map_map]
 conv=>rhs;rw[<-List.map_id l]
 refine List.map_congr_left λv hv=>?_
 show(v.1,cD _ _ (qX n v.2))=v
 rw[zZ (bO.mp h v hv)]
theorem M6 {n m:Nat} {so:SO} (h:lD m so=true):cO ρ (List.range' n m) (lG n so)=so:=by
 cases so with
 |inst C d=>
  show SO.inst C ((dP (List.range' n m) (n+d) 0).getD 0)=_
  rw[mL (bA h)]
  rfl
 |ud=>exact congrArg SO.ud (zW h)
 |dict=>exact congrArg SO.dict (zW h)
 |list=>exact congrArg SO.list (qW h)
 |listB k=>exact congrArg (SO.listB k) (qW h)
 |tup=>exact congrArg SO.tup (qW h)
 |raw=>rfl
 |_=>exact d9 h
theorem d6 {l m:List Addr} {n i:Nat} (h:l.length=n):(l++m).getD (n+i) 0=m.getD i 0:=by
 subst h
 simp only[bC]
 rw[bV (Nat.le_add_right _ _),Nat.add_sub_cancel_left]
theorem F5 {r tl:List Addr} {pre post:List SO} {n:Nat} {p:Gr} (hp:pre.length=n) (hr:r.length=n) (hl:p.2.length=p.1.length) (ok:p.1.all (lD p.1.length)=true):oO (r++(p.2++tl)) (pre++(p.1.map (lG n)++post)) (List.range' n p.1.length)=p:=by
 unfold oO
 refine Prod.ext ?_ ?_
 ·unfold gO
  apply List.ext_getElem
  ·simp
  ·intro i h1 h2
   have hi:i<p.1.length:=h2
   simp only[bw,List.getElem_range',Nat.one_mul]
   have e:(pre++(p.1.map (lG n)++post)).getD (n+i) .fz=lG n p.1[i]:=by
    subst hp
    rw[bC,bV (Nat.le_add_right _ _),Nat.add_sub_cancel_left,bU (by simpa using hi),bp,bR hi]
    rfl
   rw[e]
   exact M6 (bO.mp ok _ (List.getElem_mem hi))
 ·apply List.ext_getElem
  ·simp[hl]
  ·intro i h1 h2
   have hi:i<p.2.length:=h2
   simp only[bw,List.getElem_range',Nat.one_mul]
   rw[d6 hr,bC,bU hi,bR hi]
   rfl
theorem rO:∀(ps:List Gr) {n:Nat} {r:List Addr} {pre:List SO},pre.length=n->r.length=n->(∀p∈ps,p.2.length=p.1.length)->(ps.all λp=>p.1.all (lD p.1.length))=true->(OU n ps).map (oO (r++ps.flatMap (·.2)) (pre++dU n ps))=ps
 |[],n,r,pre,_,_,_,_=>rfl
 |p::ps,n,r,pre,hp,hr,hl,ok=>by
  rw[bh,bG] at ok
  have l1:=hl p (.head _)
  have h1:=F5 (tl:=ps.flatMap (·.2)) (post:=dU (n+p.1.length) ps) hp hr l1 ok.1
  have h2:=rO ps (n:=n+p.1.length) (r:=r++p.2) (pre:=pre++p.1.map (lG n)) (by simp[hp]) (by simp[hr,l1]) (λq hq=>hl q (.tail _ hq)) ok.2
  rw[bB,bB] at h2
  show oO (r++(p.2++ps.flatMap (·.2))) (pre++(p.1.map (lG n)++dU (n+p.1.length) ps)) (List.range' n p.1.length)::_=_
  rw[h1]
  exact congrArg (p::·) h2
section
variable {w:World}
theorem rQ {st0:List SO} {h:Heap} {ps gs:List Gr} {k:Nat} (n:Now w G aY L loc (st0++dU k ps) mm X aA h) (hk:st0.length=k) (ae:(adr X).Nodup) (H:Hd w X gs) (ok:dC (st0++dU k ps) k (OU k ps)=true) (hl:s9 loc=true)
  (okl:∀p∈ps,p.2.length=p.1.length) (okg:(ps.all λp=>p.1.all (lD p.1.length))=true) {r:List Addr} (ea:adr aA=r++ps.flatMap (·.2)) (hr:r.length=k) (fix:∀ρ,st0.map (cO ρ (List.range k))=st0):
  ∃aS aB,Now w G aY L (fJ (adr aA) (List.range k) loc) st0 mm aS aB h/\(adr aS).Nodup/\Hd w aS (gs++ps)/\adr aB=r:=by
 refine HZ (d7 n ae ok hl H) λaS n2 nd2 sub H2 e2 _=>?_
 refine⟨aS,eD aA (List.range k),?_,nd2,?_,?_⟩
 ·rw[selSt_take (by rw[bI];omega),<-hk,List.take_left,hk,fix] at n2
  exact n2
 ·have e:=rO ps hk hr okl okg
  rw[<-ea] at e
  rw[e] at H2
  exact H2
 ·rw[e2,ea,Mine.L.take_getD (l:=r) ⟨_,rfl⟩ (Nat.le_of_eq hr.symm),<-hr,bj]
end
section
variable {w:World}
end
end Mine.R
namespace Mine.L
open Mine Mine.R Mine.X
noncomputable def zT:SV->List Nat
 | .obj j=>[j]
 |_=>[]
def ZU:SO->List Nat
 | .inst _ d=>[d]
 | .ud es=>es.flatMap λp=>zT p.2
 | .dict es=>es.flatMap λp=>zT p.2
 | .list vs=>vs.flatMap zT
 | .tup vs=>vs.flatMap zT
 |_=>[]
noncomputable def dfs (st:List SO):Nat->List Nat->List Nat->List Nat
 |0,_,seen=>seen
 |_+1,[],seen=>seen
 |k+1,j::todo,seen=>match dP seen j 0 with
  |some _=>dfs st k todo seen
  |none=>match st[j]? with
   |some so=>dfs st k (ZU so++todo) (seen++[j])
   |none=>dfs st k todo seen
def MV (y:SV×List SO):List Nat:=match y.1 with
 | .obj j=>dfs y.2 40 [j] []
 |_=>[]
def GA (y:SV×List SO):Bool:=match y.1 with
 | .obj j=>match MV y with
  |i::_=>Nat.beq i j
  |[]=>false
 |_=>false
def XU (ρ:List Addr) (k:Nat) (y:SV×List SO):Option (List SO×List SO):=match GA y&&dC y.2 k [MV y] with
 |true=>some (y.2.take k,gO ρ y.2 (MV y))
 |false=>none
theorem GB {ρ:List Addr} {y:SV×List SO} (h:GA y=true) (hu:RV ρ y.1 u):u=cS (eY ρ (MV y)):=by
 unfold GA at h
 obtain⟨v,st⟩:=y
 cases v with
 |obj j=>
  refine b7 hu λa ha z1=>?_;clear hu;subst z1
  cases hp:MV (SV.obj j,st) with
  |nil=>rw[hp] at h;exact d9 h
  |cons i r=>
   rw[hp] at h
   have:i=j:=bg h
   rw[<-this] at ha;rw[<-this] at h;rw[<-this] at hp
   show Value.ref a=.ref (ρ.getD i 0)
   rw[bC,ha]
   rfl
 |_=>first|exact b5 h|exact d9 h
section
variable {w:World}
theorem JS (I:IhOk w rw1.prog ih)
  (C:Fx w fn A outer aZ base aY L p loose aC mg mb) {e:Expr} {Q:Value->Shared->Prop}
  (n:Now w G aY L loc st mm X aA s.heap) (ae:(adr X).Nodup) {gs:List Gr} (H:Hd w X gs) {ι:Type} {st1:ι->List SO} {g1:ι->List SO}
  (run:∀ρ,(cX (XU ρ k) (ih.E fn st loc e)).wp λz=>∃i,z=some (st1 i,g1 i))
  (kk:∀i ρ as aS aB h' aU,Ext (adr aA) ρ->adr aB=(List.range k).map (λi=>ρ.getD i 0)->Now w G aY L [] ((st1 i).map (cO ρ (List.range k))) mm aS aB h'->(adr aS).Nodup->
   Hd w aS (gs++[(g1 i,as)])->Q (cS as) {s with heap:=h',toks:=aU}):
  wpAny (model rw1.prog w) A (eval e (fn.env L)) Q E s:=by
 refine I.E fn st loc e C (gG (f:=λρ=>XU ρ k) (P:=λρ z=>∃i,z=some (st1 i,g1 i)) [] λρ=>run ρ) n λv aT u aB h' aU hlf x n' hv=>?_
 obtain⟨i,h1⟩:=hlf (adr aB)
 unfold XU at h1
 refine jM h1 ?_;clear h1;intro ok h1
 simp only[bG] at ok
 injection h1 with h1
 injection h1 with e1 e2
 have hu:=GB (ρ:=adr aB) (y:=(v,aT)) ok.1 hv
 have hk':k<=aT.length:=by
  rcases Nat.eq_zero_or_pos k with z|z
  ·rw[z];exact Nat.zero_le _
  ·have h2:=ok.2
   unfold dC at h2
   simp only[bG] at h2
   have:=iV h2.1.1.1 (k-1) (List.mem_range.mpr (by omega))
   omega
 obtain⟨aS,n2,nd2,sub,H2,ea,_⟩:=d7 (n'.reloc (loc':=[]) λx v h=>by exact b5 h) ae ok.2 rfl H
 rw[selSt_take hk'] at n2
 simp only at e1 e2
 rw[e1] at n2
 subst hu
 refine kk i (adr aB) (eY (adr aB) (MV (v,aT))) aS _ h' aU x ea n2 nd2 ?_
 have:[MV (v,aT)].map (oO (adr aB) aT)=[(g1 i,eY (adr aB) (MV (v,aT)))]:=by
  show [oO (adr aB) aT (MV (v,aT))]=_
  unfold oO
  rw[e2]
  rfl
 rw[this] at H2
 exact H2
end
def RQ (wd:Wd):Nat->Int
 |0=>0
 |1=>-wd.lo
 |2=>wd.hi
 |3=>wd.lo
 |4=>wd.hi+1
 |5=>wd.lo-1
 |6=>1
 |7=>-1
 |8=>-wd.lo-1
 |_=>200
def HJ (wd:Wd) (j:Nat):PS:=match decide (0<=RQ wd j) with
 |true=>.num (RQ wd j)
 |false=>.neg (RQ wd j)
noncomputable def PJ (m:Int):Nat->PS
 |4=>.far m
 |5=>.dist
 |6=>.spot m
 |7=>.way
 |_=>.bad m
def RY:Expr:=match tS 1 with| .Assign _ (.ListComp e _ _ _) _=>e|_=>.Constant .none 0 default
def HX:List Comprehension:=match tS 1 with| .Assign _ (.ListComp _ g _ _) _=>g|_=>[]
def pSc:PySem.Scope:=match tS 1 with| .Assign _ (.ListComp _ _ s _) _=>s|_=>default
def pIt:Expr:=match HX with|[g]=>g.iter|_=>.Constant .none 0 default
def pE:Expr:=match pIt with| .Call _ [e] _ _=>e|_=>.Constant .none 0 default
def pA:Pos:=match tS 1 with| .Assign [.Name _ a] _ _=>a|_=>default
def pCp:Pos:=match tS 1 with| .Assign _ (.ListComp _ _ _ p) _=>p|_=>default
def aCB:Pos:=match tS 1 with| .Assign _ _ p=>p|_=>default
theorem ZL:tS 1=.Assign [.Name "parts" pA] (.ListComp RY HX pSc pCp) aCB:=by kernel_rfl
theorem MT:gL HX=some (("number":Str),pIt,none):=by kernel_rfl
theorem RZ:fO pIt=some pE:=by kernel_rfl
noncomputable def pCl:Loc:=[("cells",.cell 2),("width",.cell 0)]
theorem ZK (fa:Addr) (cdv:Value) (k:Nat) (aF:Bool):dE (b4 fa cdv k) (dA [("is_empty",.bool aF)]) pSc.names=some pCl:=by kernel_rfl
theorem aC9 (fa:Addr) (cdv:Value) (k:Nat):(jE tb (b4 fa cdv k).scope.names&&fF pSc "number")=true:=by kernel_rfl
theorem rL1 (s:LS) (cs:List Int) (aF:Bool) (fa:Addr) (cdv:Value) (k:Nat):
  E0.E (b4 fa cdv (k+60)) ({s with cells:=cs}:LS).sT (dA [("is_empty",.bool aF)]) pE=jL (FJ cs 6) 6 0 λi=>.ret (.int i,({s with cells:=cs.tail}:LS).sT++[.list []]):=by
 rcases cs with _|⟨c,r⟩<;>kernel_rfl
noncomputable def sH {α:Type}:Tr α->Option α
 | .ret a=>some a
 | .no=>none
 | .br b t e=>match b with
  |true=>sH t
  |false=>sH e
theorem j5 {α:Type} {φ:α->Prop}:∀{t:Tr α} {a:α},sH t=some a->φ a->t.wp φ
 | .ret a,b,h,af=>by(replace h:=oS h;subst h);exact af
 | .no,b,h,af=>by exact b5 h
 | .br true t e,b,h,af=>⟨λ_=>j5 (t:=t) h af,λq=>by exact d9 q.symm⟩
 | .br false t e,b,h,af=>⟨λq=>by(exact d9 q),λ_=>j5 (t:=e) h af⟩
noncomputable def KP {α:Type}:Nat->Tr α->Tr (Option α)
 |0,t=>.ret (sH t)
 |n+1,t=>match t with
  | .br b t e=>.br b (.ret (sH t)) (KP n e)
  | .ret a=>.ret (some a)
  | .no=>.no
theorem vU {α:Type} {φ:α->Prop}:∀{n:Nat} {t:Tr α},(KP n t).wp (λo=>∃a,o=some a/\φ a)->t.wp φ
 |0,t,⟨a,h,af⟩=>j5 h af
 |n+1,.br b t e,h=>⟨λq=>by
   refine b7 (h.1 q) λa h1 h2=>?_
   exact j5 h1 h2,λq=>vU (h.2 q)⟩
 |n+1,.ret a,⟨b,h,af⟩=>by(replace h:=oS h;subst h);exact af
 |n+1,.no,h=>h.elim
theorem vW {α:Type} {φ:α->Prop} {t t':Tr α} (h:t=t') (q:t'.wp φ):t.wp φ:=by
 subst h
 exact q
def nN (s:LS) (wd:Wd) (cs:List Int) (q:PS):Option (List SO×List SO):=some (({s with wd:=some wd.n,cells:=cs}:LS).sT,q.grp)
@[irreducible] def j1 (ρ:List Addr) (s:LS) (cs:List Int) (wd:Wd) (v:SV) (fa:Addr) (cdv:Value) (k:Nat):Tr (Option (List SO×List SO)):=cX (XU ρ 22) (E0.E ((b4 fa cdv (k+60)).blk pSc) ({s with wd:=some wd.n,cells:=cs}:LS).sT (("number",v)::pCl) RY)
theorem aCN (ρ:List Addr) (s:LS) (wd:Wd) (v:SV) (fa:Addr) (cdv:Value) (k:Nat):sH (j1 ρ s [] wd v fa cdv k)=some (nN s wd [] (HJ wd 0)):=by
 cases wd<;>kernel_rfl
def aCA (wd:Wd) (m:Int) (i:Nat):PS:=match Nat.blt i 4 with
 |true=>HJ wd 0
 |false=>PJ m i
theorem aCO (ρ:List Addr) (s:LS) (c:Int) (wd:Wd) (v:SV) (fa:Addr) (cdv:Value) (k:Nat):KP 10 (j1 ρ s [c] wd v fa cdv k)=(jL (FJ [c] 9) 9 0 λi=>.ret (some (nN s wd [] (aCA wd 0 i)))):=by
 cases wd<;>kernel_rfl
def vA (s:LS) (wd:Wd) (c d:Int) (r:List Int):Tr (Option (List SO×List SO)):=jL (FJ (c::d::r) 9) 9 0 λi=>match Nat.blt i 4 with
 |true=>jL (FJ (d::r) 10) 10 0 λj=>.ret (nN s wd r (HJ wd j))
 |false=>.ret (nN s wd r (PJ (FJ (d::r) 50) i))
theorem rQb (ρ:List Addr) (s:LS) (c d:Int) (r:List Int) (v:SV) (fa:Addr) (cdv:Value) (k:Nat):j1 ρ s (c::d::r) .b v fa cdv k=vA s .b c d r:=by
 kernel_rfl
theorem rQw (ρ:List Addr) (s:LS) (c d:Int) (r:List Int) (v:SV) (fa:Addr) (cdv:Value) (k:Nat):j1 ρ s (c::d::r) .w v fa cdv k=vA s .w c d r:=by
 kernel_rfl
theorem rQl (ρ:List Addr) (s:LS) (c d:Int) (r:List Int) (v:SV) (fa:Addr) (cdv:Value) (k:Nat):j1 ρ s (c::d::r) .l v fa cdv k=vA s .l c d r:=by
 kernel_rfl
theorem rQq (ρ:List Addr) (s:LS) (c d:Int) (r:List Int) (v:SV) (fa:Addr) (cdv:Value) (k:Nat):j1 ρ s (c::d::r) .q v fa cdv k=vA s .q c d r:=by
 kernel_rfl
@[irreducible] def PartOk (ρ:List Addr) (s:LS) (wd:Wd) (v:SV) (fa:Addr) (cdv:Value) (k:Nat) (cs:List Int):Prop:=∀φ:Option (List SO×List SO)->Prop,(∀cs' q,φ (nN s wd cs' q))->(j1 ρ s cs wd v fa cdv k).wp φ
theorem PartOk.mk {s:LS} {wd:Wd} {v:SV} {fa:Addr} {cdv:Value} {cs:List Int} (h:∀φ:Option (List SO×List SO)->Prop,(∀cs' q,φ (nN s wd cs' q))->(j1 ρ s cs wd v fa cdv k).wp φ):PartOk ρ s wd v fa cdv k cs:=by
 unfold PartOk
 exact h
theorem PartOk.go {s:LS} {wd:Wd} {v:SV} {fa:Addr} {cdv:Value} {cs:List Int} (h:PartOk ρ s wd v fa cdv k cs):∀φ:Option (List SO×List SO)->Prop,(∀cs' q,φ (nN s wd cs' q))->(j1 ρ s cs wd v fa cdv k).wp φ:=by
 unfold PartOk at h
 exact h
theorem ZM (ρ:List Addr) (s:LS) (wd:Wd) (v:SV) (fa:Addr) (cdv:Value) (k:Nat):PartOk ρ s wd v fa cdv k []:=by
 refine PartOk.mk λφ af=>?_
 have h:=aCN ρ s wd v fa cdv k
 generalize j1 ρ s [] wd v fa cdv k=t at h ⊢
 exact j5 h (af _ _)
theorem ZN (ρ:List Addr) (s:LS) (c:Int) (wd:Wd) (v:SV) (fa:Addr) (cdv:Value) (k:Nat):PartOk ρ s wd v fa cdv k [c]:=by
 refine PartOk.mk λφ af=>?_
 have h:=aCO ρ s c wd v fa cdv k
 generalize j1 ρ s [c] wd v fa cdv k=t at h ⊢
 exact vU (n:=10) (vW h (iT (m:=9) (by decide) λi _=>⟨_,rfl,af _ _⟩))
theorem kG (s:LS) (wd:Wd) (c d:Int) (r:List Int) {φ:Option (List SO×List SO)->Prop} (af:∀cs' q,φ (nN s wd cs' q)):(vA s wd c d r).wp φ:=by
 refine iT (m:=9) (by decide) λi _=>?_
 cases Nat.blt i 4 with
 |true=>exact iT (m:=10) (by decide) λj _=>af _ _
 |false=>exact af _ _
theorem R4 (ρ:List Addr) (s:LS) (c d:Int) (r:List Int) (v:SV) (fa:Addr) (cdv:Value) (k:Nat):PartOk ρ s .b v fa cdv k (c::d::r):=by
 refine PartOk.mk λφ af=>?_
 have h:=rQb ρ s c d r v fa cdv k
 generalize j1 ρ s (c::d::r) .b v fa cdv k=t at h ⊢
 exact vW h (kG s .b c d r af)
theorem SB (ρ:List Addr) (s:LS) (c d:Int) (r:List Int) (v:SV) (fa:Addr) (cdv:Value) (k:Nat):PartOk ρ s .w v fa cdv k (c::d::r):=by
 refine PartOk.mk λφ af=>?_
 have h:=rQw ρ s c d r v fa cdv k
 generalize j1 ρ s (c::d::r) .w v fa cdv k=t at h ⊢
 exact vW h (kG s .w c d r af)
theorem R5 (ρ:List Addr) (s:LS) (c d:Int) (r:List Int) (v:SV) (fa:Addr) (cdv:Value) (k:Nat):PartOk ρ s .l v fa cdv k (c::d::r):=by
 refine PartOk.mk λφ af=>?_
 have h:=rQl ρ s c d r v fa cdv k
 generalize j1 ρ s (c::d::r) .l v fa cdv k=t at h ⊢
 exact vW h (kG s .l c d r af)
theorem R7 (ρ:List Addr) (s:LS) (c d:Int) (r:List Int) (v:SV) (fa:Addr) (cdv:Value) (k:Nat):PartOk ρ s .q v fa cdv k (c::d::r):=by
 refine PartOk.mk λφ af=>?_
 have h:=rQq ρ s c d r v fa cdv k
 generalize j1 ρ s (c::d::r) .q v fa cdv k=t at h ⊢
 exact vW h (kG s .q c d r af)
theorem BK (ρ:List Addr) (s:LS) (wd:Wd) (v:SV) (fa:Addr) (cdv:Value) (k:Nat):∀cs:List Int,PartOk ρ s wd v fa cdv k cs
 |[]=>ZM ρ s wd v fa cdv k
 |[c]=>ZN ρ s c wd v fa cdv k
 |c::d::r=>match wd with
  | .b=>R4 ρ s c d r v fa cdv k
  | .w=>SB ρ s c d r v fa cdv k
  | .l=>R5 ρ s c d r v fa cdv k
  | .q=>R7 ρ s c d r v fa cdv k
end Mine.L
namespace Mine.R
open Mine Mine.X Mine.L
section
variable {w:World}
theorem v3 {y:Str} {py pos:Pos} {sc:PySem.Scope} {x:Str} {cl:Loc} {elt it e:Expr} {gens:List Comprehension} {cp:Pos}
  (C:Fx w fn A outer aZ base aY L p loose aC mg mb) (ac:fn.cs=none) (hsw:vS fn sc y py cp=true)
  (n:Now w G aY L loc st mm xs aA s.heap) (ndx:(adr xs).Nodup) (hg:gL gens=some (x,it,none)) (hr:fO it=some e) (hb:(jE tb fn.scope.names&&fF sc x)=true) (hf:dE fn loc sc.names=some cl) {P:Nat->List SO->Prop} (he:(E0.E fn st loc e).wp λy=>∃m:Nat,m<=1000/\y.1=.int m/\dC y.2 st.length []=true/\P m (y.2.take st.length))
  (hP:∀m aT,P m aT->∀ρ,aT.map (cO ρ (List.range st.length))=aT) (hlo:s9 loc=true) (hsl:∀ρ,fJ ρ (List.range st.length) loc=loc)
  (J:Nat->Nat->List Value->List SO->dJ->Prop) (J0:∀m aT aS,P m aT->(∀p∈xs,p∈aS)->J m 0 [] aT aS)
  (step:∀(m i:Nat) ys st xs aB h tk,i<m->J m i ys st xs->adr aB=adr aA->∀v:Value,∀(c:CF) (z3:dJ),Now w G aY ⟨L.a,L.cl,some c⟩ ((x,.lit v)::cl) st mm (z3++xs) aB h->(c.C,c.oC)∈z3->(adr (z3++xs)).Nodup->∀(Q':Value->Shared->Prop) (E':Value->Shared->Prop),
   (∀y aT aS aB loc' h' aU,J m (i+1) (ys++[y]) aT aS->adr aB=adr aA->Now w G aY ⟨L.a,L.cl,some c⟩ loc' aT mm (z3++aS) aB h'->(adr (z3++aS)).Nodup->Q' y {s with heap:=h',toks:=aU})->
   Fx w (fn.blk sc) A outer aZ base aY ⟨L.a,L.cl,some c⟩ p loose aC mg mb->
   wpAny (model rw1.prog w) A (eval elt ((fn.blk sc).env ⟨L.a,L.cl,some c⟩)) Q' E' {s with heap:=h,toks:=tk})
  (fin:∀m ys st xs aB aV h tk D,J m m ys st xs->adr aB=adr aA++[D]->Now w G aY L (jG loc y (.obj st.length)) (st++[.list (ys.map .lit)]) aV xs aB h->(adr xs).Nodup->Q .next {s with heap:=h,toks:=tk}):
  wpAny (model rw1.prog w) A (exec (.Assign [.Name y py] (.ListComp elt gens sc cp) pos) (fn.env L)) Q E s:=by
 have hL:=C.c0 ac
 unfold vS at hsw
 simp only[bG,Bool.not_eq_true'] at hsw
 obtain⟨z1,sw3⟩:=hsw
 obtain⟨sw1,sw2⟩:=z1
 have hswaps:∀{gens:List Comprehension} {l:Nat},swapsWith (.ListComp elt gens sc cp) (some (.Name y py)) l (fn.env L)=pure true:=by
  intro gens l
  have hly:(fn.env L).kindOf y=some .local:=by rw[Fn.env0 ac];exact jW sw1 L
  have hbk:(fn.env L).blockKind=.function:=by
   rw[Fn.env0 ac]
   show(if fn.scope.kind.isAnnotationScope then ScopeKind.function else fn.scope.kind)=.function
   rw[C.hk];rfl
  have hline:py.line=cp.line:=bg sw2
  have hany:(sc.names.any λx=>match x with|(n,k)=>n==y&&(k==NameKind.local||k==NameKind.cell))=false:=by
   rw[<-sw3]
   congr 1
   funext q
   obtain⟨a,b⟩:=q
   simp only[gB]
   cases b<;>rfl
  unfold swapsWith
  simp only[hbk,hly,hany,Expr.pos,hline]
  rw[show(cp.line==cp.line)=true from by simp]
  rfl
 have hloc:(fn.env L).locals=L.a:=by rw[Fn.env0 ac]
 have hky:(fn.env L).kindOf y=some .local:=by rw[Fn.env0 ac];exact jW sw1 L
 have hclass:((fn.env L).scope.kind==ScopeKind.class||(fn.env L).scope.kind==ScopeKind.module&&(fn.env L).locals !=(fn.env L).globals)=false:=by
  rw[Fn.env0 ac]
  show(fn.scope.kind==.class||fn.scope.kind==.module&&_)=false
  rw[C.hk];rfl
 simp only[bG] at hb
 refine zO (eO hb.2) λhk hcell ah hlx=>?_
 have hcl:closureFor sc (fn.env L)=pure (j8 (fn.env L) sc.names []):=eM λq hq e=>by rw[Fn.env0 ac];exact(dN hL n.V hf).1 q hq e
 have hpl:d5 it=true:=by
  refine iJ (hU hr) λp1 p2 z1 _=>?_;subst z1
  rfl
 obtain⟨px,rfl⟩:=fV hg
 refine LCg.Assign_ListComp_U n.F hloc hswaps hcl hcell hk ah hlx hky hclass (jH (K9 w) (I0 w) ac hr hb.1 C he n (λv st1 m tk aI h1 aW af x1 n1 hv r tr ur hIs=>?_) λv aT af=>?_) (dB hpl _)
 ·refine DU af λm1 hm1 e1 e2 hPm=>?_;clear af
  simp only at e1 e2 hPm
  subst e1
  obtain⟨tk0,hv⟩:=hv
  cases hv
  refine HZ (d7 n1 ndx e2 hlo Hd.nil) λaS n2 nd2 sub _ ea2 _=>?_
  have hkl:(adr aA).length=st.length:=by simp only[adr,bF];exact n.R.len
  have ea:adr (eD aI (List.range st.length))=adr aA:=by
   rw[ea2,Mine.L.take_getD .rfl' (by obtain⟨t,e⟩:=x1;rw[e,bI];omega)]
   obtain⟨t,e⟩:=x1
   rw[e,<-hkl,List.take_left]
  have hk1:st.length<=st1.length:=by
   obtain⟨t,e⟩:=x1
   have h2:=n1.R.len
   have h3:(adr aI).length=(adr aA++t).length:=by rw[e]
   simp only[adr,bF,bI] at h3 hkl
   omega
  rw[Mine.L.selSt_take hk1,hP _ _ hPm,hsl] at n2
  have hn:Builtin.Range.rangeSize 0 (m1:Int) 1=(m1:Int):=by
   unfold Builtin.Range.rangeSize
   rcases Nat.eq_zero_or_pos m1 with e|e
   ·subst e;rfl
   ·simp;omega
  have hsm:Builtin.Range.small 0 (m1:Int) 1=true:=by
   unfold Builtin.Range.small
   rw[hn]
   unfold Builtin.Range.rangeFitsLong
   simp only[bG,decide_eq_true_eq]
   refine⟨by omega,?_⟩
   rw[Bool.or_eq_true]
   right
   rw[if_pos (by decide)]
   simp only[bG,decide_eq_true_eq]
   omega
  refine LCg.CompSrc.range C.hh n2.F n2.NX hIs hsm hn (by rw[sizeLine_eq];omega) λg=>?_
  have key:=lU (prog:=rw1.prog) C ac (x:=x) (sc:=sc) (loc:=loc) (G:=G) (ρ₀:=adr aA) (s:={s with heap:=g,toks:=aW}) (mm:=mm) (total:=m1) (elt:=elt) (Src:=λ_=>True) (Pi:=λi v=>∃t,v=.int (0+(i:Int)) t) hf n.V (Fin:=LCg.FinA aY L.a mm {s with heap:=g,toks:=aW} y Q)
   (λi ys st xs _=>J m1 i ys st xs) (λ_ _ _ _ _ _ _ _=>trivial) ?_ ?_ m1 0 [] (st1.take st.length) aS (eD aI (List.range st.length)) (by simp) (J0 m1 _ aS hPm sub) ea n2.R n2.off nd2
  ·simpa using key
  ·intro i ys st2 au aJ hi hJ e2 v hv c z3 h2 aX n2 hc nd2 Q' E' kk Cb
   exact step m1 i ys st2 au aJ h2 aX hi hJ e2 v c z3 n2 hc nd2 Q' E' (λy aT aS aB loc' h' aU a b c d=>kk y aT aS aB loc' h' aU a b c d) Cb
  ·intro ys st2 au aJ hJ e2 R2 off2 nd2 D h3 tk3 F3 N3 o1
   have lt:∀p∈au++aJ,p.1≠D:=pC o1
   have R3:=R2.push (so:=.list (ys.map .lit)) (λp hp=>lt p (ay _ hp)) ⟨ys,ys.length,gC ys,rfl⟩
   refine fin m1 ys st2 au (aJ++[(D,LCg.lst ys)]) _ h3 tk3 D hJ (by simp[adr,<-e2]) ⟨F3,λp hp=>N3 p ?_,FL.none_cx hL,λp hp z hz=>?_,R3,λz v hz=>?_⟩ nd2
   ·rw[<-bB] at hp
    rcases bN.mp hp with e|e
    ·exact .tail _ e
    ·simp at e;subst e;exact .head _
   ·rcases bN.mp hz with e|e
    ·exact off2 p hp z e
    ·simp at e;subst e;exact lt p (bK _ hp)
   ·rw[p8] at hz
    by_cases e:z=y
    ·rw[if_pos e] at hz
     replace hz:=oS hz;subst hz
     exact jQ ⟨.ref D,by rw[FL.lk0 hL,if_pos e],D,i4 R2,rfl⟩
    ·rw[if_neg e] at hz
     have:=n.V z v hz
     rw[<-e2] at this
     exact(this.ext ext_push).upd (by rw[FL.lk0 hL,FL.lk0 hL,if_neg e])
 ·refine DU af λm1 hm1 e1 e2 hP=>?_;clear af
  exact⟨_,e1⟩
end
end Mine.R
namespace Mine.L
open Mine Mine.R Mine.X
theorem pSw (fa:Addr) (cdv:Value) (k:Nat):vS (b4 fa cdv k) pSc "parts" pA pCp=true:=by kernel_rfl
theorem tL1 (s:LS):dC (s.sT++[.list []]) 22 []=true:=by kernel_rfl
theorem MU (ρ:List Addr) (s:LS) (cs:List Int) (wd:Wd) (v:SV) (fa:Addr) (cdv:Value) (k:Nat):cX (XU ρ 22) (E0.E ((b4 fa cdv (k+60)).blk pSc) ({s with wd:=some wd.n,cells:=cs}:LS).sT (("number",v)::pCl) RY)=j1 ρ s cs wd v fa cdv k:=by
 unfold j1
 rfl
theorem aCL (s:LS) (cs:List Int) (wd:Wd) (aF:Bool) (fa:Addr) (cdv:Value) (k:Nat):
  E0.E (b4 fa cdv (k+60)) ({s with wd:=some wd.n,cells:=cs}:LS).sT (dA [("is_empty",.bool aF)]) pE=jL (FJ cs 6) 6 0 λi=>.ret (.int i,({s with wd:=some wd.n,cells:=cs.tail}:LS).sT++[.list []]):=by
 have h:=rL1 {s with wd:=some wd.n} cs aF fa cdv k
 exact h
theorem KU (ρ:List Addr) (aF:Bool):fJ ρ (List.range 22) (dA [("is_empty",.bool aF)])=dA [("is_empty",.bool aF)]:=by
 have h1:fJ ρ (List.range 22) (dA [("is_empty",.bool aF)])=([("width",.cell 0),("collector",.cell 1),("cells",.cell 2),("told",cD ρ (List.range 22) (.obj 20)),("known",cD ρ (List.range 22) (.obj 21)),("is_empty",.bool aF)]:Loc):=rfl
 rw[h1,b0 (by omega),b0 (by omega)]
 rfl
section
variable {w:World}
theorem A7 {fa:Addr} {cdv:Value}
  (C:Fx w (b4 fa cdv (k+60)) A outer aZ base aY L p loose aC mg mb) {s0:Shared} {s:LS} {wd:Wd} {aF:Bool} {cs:List Int}
  (n:Now w G aY L (dA [("is_empty",.bool aF)]) ({s with wd:=some wd.n,cells:=cs}:LS).sT mm X aA s0.heap) (ae:(adr X).Nodup) {gs:List Gr} (H:Hd w X gs)
  (kk:∀(aD:List (PS×List Addr)) (cs':List Int) aS aV aB h' aU D,aD.length<=5->adr aB=adr aA++[D]->Now w G aY L (dA [("is_empty",.bool aF),("parts",.obj 22)]) (cH {s with wd:=some wd.n,cells:=cs'} (aD.map cF)) aV aS aB h'->(adr aS).Nodup->Hd w aS (aD.map pg++gs)->Q .next {s0 with heap:=h',toks:=aU}):
  wpAny (model rw1.prog w) A (exec (tS 1) ((b4 fa cdv (k+60)).env L)) Q E s0:=by
 rw[ZL]
 have hal:(adr aA).length=22:=by simp only[adr,bF];exact n.R.len
 refine v3 (P:=λm aT=>m<=5/\aT=({s with wd:=some wd.n,cells:=cs.tail}:LS).sT) C rfl (pSw fa cdv (k+60)) n ae MT RZ (aC9 fa cdv (k+60)) (ZK fa cdv (k+60) aF) ?_ (λm aT h ρ=>?_) rfl (λρ=>KU ρ aF)
  (λm i ys st xs=>m<=5/\∃(aD:List (PS×List Addr)) (cs':List Int),ys=aD.map cF/\aD.length=i/\st=({s with wd:=some wd.n,cells:=cs'}:LS).sT/\Hd w xs (aD.map pg++gs)) (λm aT aS h sub=>⟨h.1,[],cs.tail,rfl,rfl,h.2,H.sub sub⟩) ?_ ?_
 ·rw[aCL]
  exact iT (m:=6) (by decide) λi hi=>⟨i,by omega,rfl,tL1 _,by omega,rfl⟩
 ·rw[h.2]
  exact LS.sel _ (Nat.le_refl 22)
 ·rintro m i ys st xs aI h1 aW hi ⟨hm,aD,cs',rfl,hl,rfl,H1⟩ e1 v c z3 n2 hc nd2 Q' E' k1 Cb
  have H2:=p4 nd2 H1
  refine JS (I0 w) Cb (s:={s0 with heap:=h1,toks:=aW}) n2 nd2 H2 (k:=22) (ι:=List Int×PS) (st1:=λi=>({s with wd:=some wd.n,cells:=i.1}:LS).sT) (g1:=λi=>i.2.grp) (λρ=>?_) λj ρ as xs3 aK h3 tk3 x3 e3 n3 nd3 H3=>?_
  ·rw[MU]
   exact(BK ρ s wd (.lit v) fa cdv k cs').go _ λcs'' q=>⟨(cs'',q),rfl⟩
  rw[LS.sel _ (by omega)] at n3
  obtain⟨xs4,n4,nd4,H4⟩:=kF n3 nd3 (λc' hc'=>by(replace hc':=oS hc';subst hc');exact hc) H3
  have e4:adr aK=adr aA:=by
   rw[e3,take_getD x3 (by rw[e1,hal];omega),e1,<-hal,bj]
  refine k1 (cS as) _ xs4 aK _ h3 tk3 ⟨hm,aD++[(j.2,as)],j.1,by rw[bH];rfl,by rw[bI,hl];rfl,rfl,?_⟩ e4 n4 nd4
  refine Hd.perm ?_ H4
  rw[bH]
  show((aD.map pg++gs)++[(j.2.grp,as)]).Perm ((aD.map pg++[(j.2.grp,as)])++gs)
  rw[bB,bB]
  exact bJ _ bM
 ·rintro m ys st xs aI aw h1 aW D ⟨hm,aD,cs',rfl,hl,rfl,H1⟩ e1 n1 nd1
  exact kk aD cs' xs aw aI h1 aW D (by omega) e1 n1 nd1 H1
end
noncomputable def kT:Str:=".text"
inductive Sc where
 |n|d (x:List Addr)|b (y:List Addr)|db (x y:List Addr)|bd (y x:List Addr)
def Sc.secs (t:Value):Sc->List (Str×Value)
 | .n=>[(kT,t)]
 | .d x=>[(kT,t),(fE,cS x)]
 | .b y=>[(kT,t),(gE,cS y)]
 | .db x y=>[(kT,t),(fE,cS x),(gE,cS y)]
 | .bd y x=>[(kT,t),(gE,cS y),(fE,cS x)]
def Sc.nms:Sc->List Str
 | .n=>[kT]
 | .d _=>[kT,fE]
 | .b _=>[kT,gE]
 | .db _ _=>[kT,fE,gE]
 | .bd _ _=>[kT,gE,fE]
def jO (s:LS) (t:Value) (sc:Sc):LS:={s with secs:=sc.secs t,nms:=sc.nms}
def iX (aF:Bool):Loc:=dA [("is_empty",.bool aF),("parts",.obj 22)]
noncomputable def Sc.get:Sc->Bool->Option (List Addr)
 | .d x,false=>some x
 | .b y,true=>some y
 | .db x _,false=>some x
 | .db _ y,true=>some y
 | .bd y _,true=>some y
 | .bd _ x,false=>some x
 |_,_=>none
noncomputable def Sc.add:Sc->Bool->List Addr->Sc
 | .n,false,l=>.d l
 | .n,true,l=>.b l
 | .d x,true,l=>.db x l
 | .b y,false,l=>.bd y l
 |sc,_,_=>sc
def Sc.grs (P:Bool->List Value):Sc->List Gr
 | .n=>[]
 | .d x=>[(cG fE (P false),x)]
 | .b y=>[(cG gE (P true),y)]
 | .db x y=>[(cG fE (P false),x),(cG gE (P true),y)]
 | .bd y x=>[(cG gE (P true),y),(cG fE (P false),x)]
def Sc.rest (P:Bool->List Value):Sc->Bool->List Gr
 | .db _ y,false=>[(cG gE (P true),y)]
 | .db x _,true=>[(cG fE (P false),x)]
 | .bd y _,false=>[(cG gE (P true),y)]
 | .bd _ x,true=>[(cG fE (P false),x)]
 | .d x,true=>[(cG fE (P false),x)]
 | .b y,false=>[(cG gE (P true),y)]
 |_,_=>[]
theorem Sc.perm {P:Bool->List Value}:∀{sc:Sc} {aF:Bool} {sa:List Addr},sc.get aF=some sa->(sc.grs P).Perm ((cG (eU aF) (P aF),sa)::sc.rest P aF)
 | .d x,false,_,h=>by(replace h:=oS h;subst h);exact .refl _
 | .b y,true,_,h=>by(replace h:=oS h;subst h);exact .refl _
 | .db x _,false,_,h=>by(replace h:=oS h;subst h);exact .refl _
 | .db _ y,true,_,h=>by(replace h:=oS h;subst h);exact List.Perm.swap _ _ _
 | .bd y _,true,_,h=>by(replace h:=oS h;subst h);exact .refl _
 | .bd _ x,false,_,h=>by(replace h:=oS h;subst h);exact List.Perm.swap _ _ _
theorem Sc.rest_eq {P P':Bool->List Value} {aF:Bool} (h:P (!aF)=P' (!aF)):∀sc:Sc,sc.rest P aF=sc.rest P' aF
 | .n=>rfl
 | .d x=>by cases aF<;>(simp at h;simp[Sc.rest,h])
 | .b y=>by cases aF<;>(simp at h;simp[Sc.rest,h])
 | .db x y=>by cases aF<;>(simp at h;simp[Sc.rest,h])
 | .bd y x=>by cases aF<;>(simp at h;simp[Sc.rest,h])
theorem Sc.get_add:∀{sc:Sc} {aF:Bool} {l:List Addr},sc.get aF=none->(sc.add aF l).get aF=some l
 | .n,false,_,_=>rfl
 | .n,true,_,_=>rfl
 | .d x,true,_,_=>rfl
 | .b y,false,_,_=>rfl
theorem Sc.rest_add {P:Bool->List Value}:∀{sc:Sc} {aF:Bool} {l:List Addr},sc.get aF=none->(sc.add aF l).rest P aF=sc.grs P
 | .n,false,_,_=>rfl
 | .n,true,_,_=>rfl
 | .d x,true,_,_=>rfl
 | .b y,false,_,_=>rfl
noncomputable def tN2:List Str:=["width","collector","cells","told","known","is_empty","parts"]
noncomputable def tV2 (aF:Bool):List SV:=[.cell 0,.cell 1,.cell 2,.obj 20,.obj 21,.bool aF,.obj 22]
def M1 (s:LS) (t:Value) (sc:Sc) (aE:List Value) (aF:Bool) (j:Nat):List SO:=(((cH (jO s t sc) aE).set 5 (.dict [("program",.obj 6),("section",.obj j),("scope",.obj 11)])).set 8 (.ud (fC (sc.secs t)++[(eU aF,.obj j)]))).set 9 (.list ((sc.nms++[eU aF]).map .str))
noncomputable def JZ (nm:Str):List SO:=[.inst 795 1,.dict [("name",.str nm),("pieces",.obj 2),("labels",.obj 3)],.list [],.ud []]
theorem rLE (ρ:List Addr) (s:LS) (t:Value) (aE:List Value) (fa:Addr) (cdv:Value) (k:Nat):∀(sc:Sc) (aF:Bool) (sa:List Addr),sc.get aF=some sa->
  cX (lf ρ 23 [] tN2) (E0.S (b4 fa cdv (k+60)) (cH (jO s t sc) aE) (iX aF) [tS 2])=.ret (some ⟨.next,cH {jO s t sc with sec:=cS sa} aE,[],(tV2 aF).map some⟩)
 | .d x,false,_,h=>by(replace h:=oS h;subst h);kernel_rfl
 | .b y,true,_,h=>by(replace h:=oS h;subst h);kernel_rfl
 | .db x _,false,_,h=>by(replace h:=oS h;subst h);kernel_rfl
 | .db _ y,true,_,h=>by(replace h:=oS h;subst h);kernel_rfl
 | .bd y _,true,_,h=>by(replace h:=oS h;subst h);kernel_rfl
 | .bd _ x,false,_,h=>by(replace h:=oS h;subst h);kernel_rfl
theorem rLA (ρ:List Addr) (s:LS) (t:Value) (aE:List Value) (fa:Addr) (cdv:Value) (k:Nat):∀(sc:Sc) (aF:Bool),sc.get aF=none->
  cX (lf ρ 23 [[28,27,29,30]] tN2) (E0.S (b4 fa cdv (k+60)) (cH (jO s t sc) aE) (iX aF) [tS 2])=.ret (some ⟨.next,M1 s t sc aE aF 28,[JZ (eU aF)],(tV2 aF).map some⟩)
 | .n,false,_=>by kernel_rfl
 | .n,true,_=>by kernel_rfl
 | .d x,true,_=>by kernel_rfl
 | .b y,false,_=>by kernel_rfl
noncomputable def uI (k:Nat):SV->Bool
 | .obj i=>Nat.blt i k
 |_=>true
theorem J6:∀{v:SV},uI k v=true->DE ρ k v=v
 | .none,_=>rfl
 | .bool _,_=>rfl
 | .int _,_=>rfl
 | .str _,_=>rfl
 | .bytes _ _,_=>rfl
 | .lit _,_=>rfl
 | .cell _,_=>rfl
 | .obj i,h=>b0 (bA h)
theorem gY:∀{ns:List Str} {vs:List SV},vs.all (uI k)=true->fD ρ k ns vs=ns.zip vs
 |[],_,_=>by simp[fD]
 |_::_,[],_=>by simp[fD]
 |x::r,v::t,h=>by
  rw[bh,bG] at h
  show(x,DE ρ k v)::fD ρ k r t=_
  rw[J6 h.1,gY h.2]
  rfl
theorem JY (s:LS) (t:Value) (aE:List Value):∀(sc:Sc) (aF:Bool),sc.get aF=none->
  (M1 s t sc aE aF 28).map (cO ρ (List.range 23))=cH {jO s t (sc.add aF (eY ρ [28,27,29,30])) with sec:=cS (eY ρ [28,27,29,30])} aE:=by
 intro sc aF hg
 have e0:({jO s t sc with sec:=cS (eY ρ [28,27,29,30])}:LS)={jO s t sc with sec:=cS (eY ρ [28,27,29,30])}:=rfl
 have d1:cO ρ (List.range 23) (.dict [("program",.obj 6),("section",.obj 28),("scope",.obj 11)])=.dict [("program",.obj 6),("section",.lit (cS (eY ρ [28,27,29,30]))),("scope",.obj 11)]:=by
  show SO.dict (eV _ _ _)=_
  unfold eV
  simp only[bL,bf]
  rw[b0 (i:=6) (by omega),b0 (i:=11) (by omega),cJ (i:=28) (by omega)]
  rfl
 have d2:cO ρ (List.range 23) (.ud (fC (sc.secs t)++[(eU aF,.obj 28)]))=.ud (fC (sc.secs t++[(eU aF,cS (eY ρ [28,27,29,30]))])):=by
  show SO.ud (eV _ _ _)=_
  rw[qR,mM]
  delta eV fC
  simp only[bL,bf,bH]
  rw[cJ (i:=28) (by omega)]
  rfl
 have d3:cO ρ (List.range 23) (.list ((sc.nms++[eU aF]).map .str))=.list ((sc.nms++[eU aF]).map .str):=by
  show SO.list _=_
  rw[nC]
 unfold M1
 rw[List.map_set,List.map_set,List.map_set,eE,d1,d2,d3]
 clear d1 d2 d3 e0
 cases sc<;>cases aF<;>first|rfl|exact b5 hg.symm
section
variable {w:World}
theorem DD {gs:List Gr} {nm:Str} {a:List Addr} (H:Hd w xs ((JZ nm,a)::gs)):Hd w xs ((cG nm [],a)::gs):=by
 refine Hd.weak H rfl λi so' hi=>?_
 match i,hi with
 |0,hi=>exact⟨_,rfl,λG ρ a o h=>by(replace hi:=oS hi;subst hi);exact h⟩
 |1,hi=>exact⟨_,rfl,λG ρ a o h=>by(replace hi:=oS hi;subst hi);exact h⟩
 |2,hi=>exact⟨_,rfl,λG ρ a o h=>by(replace hi:=oS hi;subst hi);exact⟨h,Nat.zero_le _⟩⟩
 |3,hi=>exact⟨_,rfl,λG ρ a o h=>by(replace hi:=oS hi;subst hi);exact h⟩
 |n+4,hi=>exact b5 hi
theorem L8 {fa:Addr} {cdv:Value}
  (C:Fx w (b4 fa cdv (k+60)) A outer aZ base aY L p loose aC mg mb) {s0:Shared} {s:LS} {t:Value} {sc:Sc} {aF:Bool} {aE:List Value} {P:Bool->List Value} {N:Nat} (PE:PassesOwn (model rw1.prog w) A ((b4 fa cdv (k+60)).env L) E)
  (n:Now w G aY L (iX aF) (cH (jO s t sc) aE) mm X aA s0.heap) (ae:(adr X).Nodup) {gs:List Gr} (H:Hd w X (gs++sc.grs P)) (hP:∀b,(P b).length<=N)
  (kk:∀(sc':Sc) (P':Bool->List Value) (sa:List Addr) aS aV aB h' aU,sc'.get aF=some sa->(∀b,(P' b).length<=N)->adr aB=adr aA->Now w G aY L (iX aF) (cH {jO s t sc' with sec:=cS sa} aE) aV aS aB h'->(adr aS).Nodup->Hd w aS (gs++(cG (eU aF) (P' aF),sa)::sc'.rest P' aF)->Q .next {s0 with heap:=h',toks:=aU}):
  wpAny (model rw1.prog w) A (execs [tS 2] ((b4 fa cdv (k+60)).env L)) Q E s0:=by
 have hl:(adr aA).length=23:=by simp only[adr,bF];exact n.R.len
 have eL:∀ρ,fD ρ 23 tN2 (tV2 aF)=iX aF:=λρ=>by rw[gY (by rfl)];rfl
 have ea:∀{ρ:List Addr} {aK:dJ},Ext (adr aA) ρ->adr aK=(List.range 23).map (λi=>ρ.getD i 0)->adr aK=adr aA:=λx3 ea3=>by
  rw[ea3,take_getD x3 (by omega),<-hl,bj]
 cases hg:sc.get aF with
 |some sa=>
  refine eT (ih:=E0) (I0 w) C rfl (s:=s0) (loc:=iX aF) (st:=cH (jO s t sc) aE) (b:=[tS 2]) PE n ae H (k:=23) (pis:=[]) (ns:=tN2) (st1:=cH {jO s t sc with sec:=cS sa} aE) (gs1:=[]) (vs:=tV2 aF) (by show 23<=23;omega) (by rfl) (λρ=>.ret (rLE ρ s t aE fa cdv k sc aF sa hg)) λρ xs3 mm3 aK h3 tk3 x3 ea3 n3 nd3 H3=>?_
  rw[eE,eL] at n3
  refine kk sc P sa xs3 mm3 aK h3 tk3 hg hP (ea x3 ea3) n3 nd3 (Hd.perm (bJ _ (Sc.perm hg)) (by simpa using H3))
 |none=>
  refine eT (ih:=E0) (I0 w) C rfl (s:=s0) (loc:=iX aF) (st:=cH (jO s t sc) aE) (b:=[tS 2]) PE n ae H (k:=23) (pis:=[[28,27,29,30]]) (ns:=tN2) (st1:=M1 s t sc aE aF 28) (gs1:=[JZ (eU aF)]) (vs:=tV2 aF) (by show 23<=23;omega) (by rfl) (λρ=>.ret (rLA ρ s t aE fa cdv k sc aF hg)) λρ xs3 mm3 aK h3 tk3 x3 ea3 n3 nd3 H3=>?_
  rw[JY s t aE sc aF hg,eL] at n3
  have H4:Hd w xs3 ((JZ (eU aF),eY ρ [28,27,29,30])::(gs++sc.grs P)):=Hd.perm bM (show Hd w xs3 ((gs++sc.grs P)++[(JZ (eU aF),eY ρ [28,27,29,30])]) from H3)
  have H5:=Hd.perm (bt (l₁:=gs)).symm (DD H4)
  refine kk (sc.add aF (eY ρ [28,27,29,30])) (λb=>if b=aF then [] else P b) _ xs3 mm3 aK h3 tk3 (Sc.get_add hg) (λb=>?_) (ea x3 ea3) n3 nd3 ?_
  ·by_cases hb:b=aF
   ·rw[if_pos hb];exact Nat.zero_le _
   ·rw[if_neg hb];exact hP b
  ·rw[Sc.rest_eq (P':=P) (by cases aF<;>rfl),Sc.rest_add hg,if_pos rfl]
   exact H5
end
end Mine.L
namespace Mine.R
open Mine Mine.X Mine.L
theorem HV {n m:Nat} (h:n+m<=k):∀{v:SV},gK m v=true->gK k (qX n v)=true
 | .none,_=>rfl
 | .bool _,_=>rfl
 | .int _,_=>rfl
 | .str _,_=>rfl
 | .bytes _ _,_=>rfl
 | .lit _,_=>rfl
 | .obj i,e=>by
  have:i<m:=bA e
  exact Nat.ble_eq_true_of_le (show n+i+1<=k by omega)
theorem tH {n m:Nat} (h:n+m<=k) {l:List SV} (e:l.all (gK m)=true):(l.map (qX n)).all (gK k)=true:=by
 rw[List.all_map,bO]
 exact λv hv=>HV h (bO.mp e v hv)
theorem HS {n m:Nat} (h:n+m<=k) {l:List (Str×SV)} (e:(l.all λp=>gK m p.2)=true):((KZ n l).all λp=>gK k p.2)=true:=by
 unfold KZ
 rw[List.all_map,bO]
 exact λv hv=>HV h (bO.mp e v hv)
theorem RX {n m:Nat} (h:n+m<=k):∀{so:SO},lD m so=true->lD k (lG n so)=true
 | .inst C d,e=>by
  have:d<m:=bA e
  exact Nat.ble_eq_true_of_le (show n+d+1<=k by omega)
 | .ud es,e=>HS h e
 | .dict es,e=>HS h e
 | .list vs,e=>tH h e
 | .listB k vs,e=>tH h e
 | .tup vs,e=>tH h e
 | .raw o,_=>rfl
theorem vK:∀{v:SV},gK k v=true->cD ρ (List.range k) v=v
 | .none,_=>rfl
 | .bool _,_=>rfl
 | .int _,_=>rfl
 | .str _,_=>rfl
 | .bytes _ _,_=>rfl
 | .lit _,_=>rfl
 | .obj i,e=>b0 (bA e)
theorem nB {l:List SV} (h:l.all (gK k)=true):l.map (cD ρ (List.range k))=l:=by
 conv=>rhs;rw[<-List.map_id l]
 exact List.map_congr_left λv hv=>vK (bO.mp h v hv)
theorem vJ {l:List (Str×SV)} (h:(l.all λp=>gK k p.2)=true):eV ρ (List.range k) l=l:=by
 conv=>rhs;rw[<-List.map_id l]
 refine List.map_congr_left λv hv=>?_
 rw[vK (bO.mp h v hv)]
 rfl
theorem iE:∀{so:SO},lD k so=true->cO ρ (List.range k) so=so
 | .inst C d,h=>by
  show SO.inst C ((dP (List.range k) d 0).getD 0)=_
  rw[mK (bA h)]
  rfl
 | .ud es,h=>congrArg SO.ud (vJ h)
 | .dict es,h=>congrArg SO.dict (vJ h)
 | .list vs,h=>congrArg SO.list (nB h)
 | .listB k vs,h=>congrArg (SO.listB k) (nB h)
 | .tup vs,h=>congrArg SO.tup (nB h)
 | .raw o,h=>rfl
theorem iN {ρ:List Addr} {k:Nat}:∀(ps:List Gr) {n:Nat},(ps.all λp=>p.1.all (lD p.1.length))=true->n+(ps.flatMap (·.1)).length<=k->(dU n ps).map (cO ρ (List.range k))=dU n ps
 |[],_,_,_=>rfl
 |p::r,n,ok,h=>by
  rw[bh,bG] at ok
  rw[ba,bI] at h
  unfold dU
  rw[bH,iN r ok.2 (by omega)]
  congr 1
  rw[List.map_map]
  refine List.map_congr_left λso hs=>?_
  exact iE (RX (by omega) (bO.mp ok.1 so hs))
theorem f7 (l:List Value):(l.map SV.lit).all (gK k)=true:=by
 rw[List.all_map,bO]
 exact λ_ _=>rfl
end Mine.R
namespace Mine.L
open Mine Mine.R Mine.X
theorem iO (s:LS) (aE:List Value) (ρ:List Addr) (h:23<=k):(cH s aE).map (cO ρ (List.range k))=cH s aE:=by
 unfold cH
 rw[bH,LS.sel s (by omega)]
 congr 1
 simp only[bL,bf]
 have a1:cO ρ (List.range k) (.list (aE.map .lit))=.list (aE.map .lit):=by
  show SO.list _=_
  rw[cY]
 rw[a1]
theorem jI (nm:Str) (ps:List Value):(cG nm ps).all (lD (cG nm ps).length)=true:=by
 show(lD 4 _&&(lD 4 _&&(lD 4 (.listB 100 (ps.map .lit))&&_)))=true
 rw[show lD 4 (.listB 100 (ps.map .lit))=true from f7 ps]
 rfl
noncomputable def J1 (j:Nat):SO:=.dict [("program",.obj 6),("section",.obj j),("scope",.obj 11)]
noncomputable def TO (v:Value):SO:=.dict [("program",.obj 6),("section",.lit v),("scope",.obj 11)]
def p7 (s:LS) (aE:List Value) (nm:Str) (ps:List Value) (sa:List Addr):List SO:=(cH s aE++dU 23 [(cG nm ps,sa)]).set 5 (J1 23)
noncomputable def tN3:List Str:=["width","collector","cells","told","known","is_empty","parts","pieces","many"]
noncomputable def tV3 (aF:Bool) (v:SV) (m:Nat):List SV:=[.cell 0,.cell 1,.cell 2,.obj 20,.obj 21,.bool aF,.obj 22,v,.int m]
def gP (aF:Bool) (v:SV) (m:Nat):Loc:=dA [("is_empty",.bool aF),("parts",.obj 22),("pieces",v),("many",.int m)]
theorem rLK (ρ:List Addr) (s:LS) (aE:List Value) (nm:Str) (ps:List Value) (sa:List Addr) (aF:Bool) (fa:Addr) (cdv:Value) (k:Nat):
  cX (lf ρ 27 [] tN3) (E0.S (b4 fa cdv (k+60)) (p7 s aE nm ps sa) (iX aF) [tS 3,tS 4])=.ret (some ⟨.next,p7 s aE nm ps sa,[],(tV3 aF (.obj 25) ((ps.map SV.lit).map (qX 23)).length).map some⟩):=by kernel_rfl
theorem tLK (s:LS) (aE:List Value) (nm:Str) (ps:List Value) (sa:List Addr):dC (cH s aE++dU 23 [(cG nm ps,sa)]) 23 (OU 23 [(cG nm ps,sa)])=true:=by kernel_rfl
theorem rS (s:LS) (aE:List Value) (nm:Str) (ps:List Value) (sa:List Addr):(cH s aE++dU 23 [(cG nm ps,sa)]).length=27:=by kernel_rfl
section
variable {w:World}
theorem GS {fa:Addr} {cdv:Value}
  (C:Fx w (b4 fa cdv (k+60)) A outer aZ base aY L p loose aC mg mb) {s0:Shared} {s:LS} {aF:Bool} {aE:List Value} {nm:Str} {ps:List Value} {sa:List Addr} (PE:PassesOwn (model rw1.prog w) A ((b4 fa cdv (k+60)).env L) E)
  (n:Now w G aY L (iX aF) (cH s aE) mm X aA s0.heap) (ae:(adr X).Nodup) {gs:List Gr} (H:Hd w X ((cG nm ps,sa)::gs)) (ag:s.sec=cS sa)
  (kk:∀aS aV aB h' aU,adr aB=adr aA->Now w G aY L (gP aF (.lit (.ref (sa.getD 2 0))) ps.length) (cH s aE) aV aS aB h'->(adr aS).Nodup->Hd w aS ((cG nm ps,sa)::gs)->sa.length=4->Q .next {s0 with heap:=h',toks:=aU}):
  wpAny (model rw1.prog w) A (execs [tS 3,tS 4] ((b4 fa cdv (k+60)).env L)) Q E s0:=by
 have hl:(adr aA).length=23:=by simp only[adr,bF];exact n.R.len
 have hL:=C.c0 rfl
 refine OV (Hd.focusL [(cG nm ps,sa)] H n hL ae) λxs1 aI n1 nd1 H1 e1 l1=>?_
 have e1:adr aI=adr aA++sa:=by rw[e1];simp
 have hsa:sa.length=4:=l1 (cG nm ps,sa) (.head _)
 have n1:Now w G aY L (iX aF) (cH s aE++dU 23 [(cG nm ps,sa)]) mm xs1 aI s0.heap:=n1
 have g23:∀i,(adr aI).getD (23+i) 0=sa.getD i 0:=λi=>by rw[e1,d6 hl]
 have eS:∀{ρ:List Addr},ρ.getD 23 0=sa.getD 0 0->NW ρ (J1 23)=NW ρ (TO s.sec):=λh=>by
  rw[ag]
  show SO.dict [("program",_),("section",.lit (.ref _)),("scope",_)]=_
  rw[h]
  rfl
 have n2:=n1.relit (i:=5) (so:=TO s.sec) (J1 23) rfl (by rw[rS];rfl) (eS (g23 0))
 have n2:Now w G aY L (iX aF) (p7 s aE nm ps sa) mm xs1 aI s0.heap:=n2
 have hlen:(p7 s aE nm ps sa).length=27:=by unfold p7;rw[bq,rS]
 have eL:∀ρ m,fD ρ 27 tN3 (tV3 aF (.obj 25) m)=gP aF (.obj 25) m:=λρ m=>by rw[gY (by rfl)];rfl
 refine eT (ih:=E0) (I0 w) C rfl (s:=s0) (loc:=iX aF) (st:=p7 s aE nm ps sa) (b:=[tS 3,tS 4]) PE n2 nd1 H1 (k:=27) (pis:=[]) (ns:=tN3) (st1:=p7 s aE nm ps sa) (gs1:=[]) (vs:=tV3 aF (.obj 25) ((ps.map SV.lit).map (qX 23)).length) (by rw[hlen];exact Nat.le_refl _) (by rfl) (λρ=>.ret (rLK ρ s aE nm ps sa aF fa cdv k)) λρ xs3 mm3 aK h3 tk3 x3 ea3 n3 nd3 H3=>?_
 have ea3:adr aK=adr aA++sa:=by
  have hl1:(adr aI).length=27:=by rw[e1,bI,hl,hsa]
  rw[ea3,take_getD x3 (by omega),<-hl1,bj,e1]
 have fix:∀ρ,(p7 s aE nm ps sa).map (cO ρ (List.range 27))=p7 s aE nm ps sa:=λρ=>by
  unfold p7
  rw[List.map_set,bH,iO s aE ρ (by omega),iN _ (by rw[bh,jI];rfl) (by show 23+4<=27;omega),iE (so:=J1 23) rfl]
 rw[fix,eL,bF,bF] at n3
 have n4:=n3.relit (i:=5) (so:=J1 23) (TO s.sec) (by rfl) (by rfl) (eS (by rw[ea3];exact d6 (i:=0) hl)).symm
 have n4:Now w G aY L (gP aF (.obj 25) ps.length) (cH s aE++dU 23 [(cG nm ps,sa)]) mm3 xs3 aK h3:=by
  unfold p7 at n4
  rw[List.set_set] at n4
  exact n4
 obtain⟨xs5,aM,n5,nd5,H5,e5⟩:=rQ n4 (by rfl) nd3 (by simpa using H3) (tLK s aE nm ps sa) (by rfl) l1 (by rw[bh,jI];rfl) (r:=adr aA) (by rw[ea3];simp) hl (λρ=>eE s aE ρ)
 refine kk xs5 mm3 aM h3 tk3 e5 ?_ nd5 (Hd.perm bM H5) hsa
 have h1:fJ (adr aK) (List.range 23) (gP aF (.obj 25) ps.length)=([("width",.cell 0),("collector",.cell 1),("cells",.cell 2),("told",cD (adr aK) (List.range 23) (.obj 20)),("known",cD (adr aK) (List.range 23) (.obj 21)),("is_empty",.bool aF),("parts",cD (adr aK) (List.range 23) (.obj 22)),("pieces",cD (adr aK) (List.range 23) (.obj 25)),("many",.int ps.length)]:Loc):=rfl
 rw[h1,b0 (by omega),b0 (by omega),b0 (by omega),cJ (by omega),ea3,show(25:Nat)=23+2 from rfl,d6 hl] at n5
 exact n5
end
def w5c:Expr:=match tS 5 with| .Assign _ e _=>e|_=>.Constant .none 0 default
def w5q:Pos:=match tS 5 with| .Assign [.Name _ a] _ _=>a|_=>default
def aAe:Pos:=match tS 5 with| .Assign _ _ p=>p|_=>default
def w5f:Expr:=match w5c with| .Call f _ _ _=>f|_=>.Constant .none 0 default
def yC:List Expr:=match w5c with| .Call _ l _ _=>l|_=>[]
def T8:Pos:=match w5c with| .Call _ _ _ p=>p|_=>default
def w5a:Expr:=zM (.Constant .none 0 default) yC 0
def UF:Expr:=zM (.Constant .none 0 default) yC 1
def w5l:Expr:=zM (.Constant .none 0 default) yC 2
def AD:Expr:=match w5l with| .ListComp e _ _ _=>e|_=>.Constant .none 0 default
def tV:List Comprehension:=match w5l with| .ListComp _ g _ _=>g|_=>[]
def w5sc:PySem.Scope:=match w5l with| .ListComp _ _ s _=>s|_=>default
def aAd:Pos:=match w5l with| .ListComp _ _ _ p=>p|_=>default
def UA:Expr:=match tV with|[g]=>g.iter|_=>.Constant .none 0 default
theorem T3:tS 5=.Assign [.Name "word" w5q] (.Call w5f [w5a,UF,.ListComp AD tV w5sc aAd] [] T8) aAe:=by kernel_rfl
theorem KR:gL tV=some (("row":Str),UA,none):=by kernel_rfl
theorem aAc:(fF w5sc "row"&&d5 UA)=true:=by kernel_rfl
noncomputable def KQ:Loc:=[]
theorem T9 (fa:Addr) (cdv:Value) (k:Nat) (aF:Bool) (v:SV) (m:Nat):dE (b4 fa cdv k) (gP aF v m) w5sc.names=some KQ:=by kernel_rfl
def mP (s:LS) (wd:Wd):LS:={s with wd:=some wd.n}
theorem aCp (s:LS) (wd:Wd) (aE:List Value) (fa:Addr) (cdv:Value) (k:Nat) (aF:Bool) (v:SV) (m:Nat):E0.E (b4 fa cdv (k+60)) (cH (mP s wd) aE) (gP aF v m) w5f=.ret (.lit (.ref 1031),cH (mP s wd) aE):=by kernel_rfl
theorem aCm (s:LS) (wd:Wd) (aE:List Value) (fa:Addr) (cdv:Value) (k:Nat) (aF:Bool) (v:SV) (m:Nat):E0.E (b4 fa cdv (k+60)) (cH (mP s wd) aE) (gP aF v m) w5a=.ret (.obj 4,cH (mP s wd) aE):=by kernel_rfl
theorem aCn (s:LS) (wd:Wd) (aE:List Value) (fa:Addr) (cdv:Value) (k:Nat) (aF:Bool) (v:SV) (m:Nat):E0.E (b4 fa cdv (k+60)) (cH (mP s wd) aE) (gP aF v m) UF=.ret (.int wd.n,cH (mP s wd) aE):=by kernel_rfl
theorem aCq (s:LS) (wd:Wd) (aE:List Value) (fa:Addr) (cdv:Value) (k:Nat) (aF:Bool) (v:SV) (m:Nat):E0.E (b4 fa cdv (k+60)) (cH (mP s wd) aE) (gP aF v m) UA=.ret (.obj 22,cH (mP s wd) aE):=by kernel_rfl
theorem aCk (st:List SO) (s:LS) (wd:Wd) (aE:List Value) (fa:Addr) (cdv:Value) (k:Nat) (aF:Bool) (v:SV) (m:Nat):oH E0 (b4 fa cdv (k+60)) (cH (mP s wd) aE) (gP aF v m) [w5a,UF]=.ret ([.obj 4,.int wd.n],cH (mP s wd) aE):=by kernel_rfl
theorem aCl (st:List SO) (s:LS) (wd:Wd) (aE:List Value) (fa:Addr) (cdv:Value) (k:Nat) (aF:Bool) (v:SV) (m:Nat):oH E0 (b4 fa cdv (k+60)) (cH (mP s wd) aE) (gP aF v m) [UF]=.ret ([.int wd.n],cH (mP s wd) aE):=by kernel_rfl
def oM (s:LS) (aE:List Value):List SO:=(cH s aE).set 22 .fz
theorem aCo (s:LS) (aE:List Value) (fa:Addr) (cdv:Value) (k:Nat) (as:List Addr) (q:PS):E0.E ((b4 fa cdv (k+60)).blk w5sc) (oM s aE++dU 23 [(q.grp,as)]) (("row",.obj 23)::KQ) AD=.ret (.obj 24,oM s aE++dU 23 [(q.grp,as)]):=by cases q<;>kernel_rfl
theorem LQ (q:PS):q.grp.all (lD q.grp.length)=true:=by cases q<;>kernel_rfl
theorem tW5 (s:LS) (aE:List Value) (as:List Addr) (q:PS):dC (oM s aE++dU 23 [(q.grp,as)]) 23 (OU 23 [(q.grp,as)])=true:=by cases q<;>kernel_rfl
theorem LP (q:PS):1<q.grp.length:=by cases q<;>exact bA rfl
theorem GM (w:World):keepIn (K w.params) (.ref 1031)=true:=by kernel_rfl
theorem FW (s:LS) (aE:List Value) (ρ:List Addr):(oM s aE).map (cO ρ (List.range 23))=oM s aE:=by
 unfold oM
 rw[List.map_set,eE]
 rfl
theorem tNd (s:LS) (aE aG:List Value):dC (hY s aE aG) 23 []=true:=by kernel_rfl
section
variable {w:World}
theorem HI {fa:Addr} {cdv:Value}
  (C:Fx w ((b4 fa cdv (k+60)).blk w5sc) A outer aZ base aY L p loose aC mg mb) {s0:Shared} {z3:dJ} {s:LS} {aE:List Value} {q:PS×List Addr} {a b:List Gr} {c:CF} {Q:Value->Shared->Prop}
  (hLc:L.c=some c) (hc:(c.C,c.oC)∈z3) (n:Now w G aY L (("row",.lit (cF q))::KQ) (oM s aE) mm (z3++X) aA s0.heap) (ae:(adr (z3++X)).Nodup) (H:Hd w X (a++pg q::b))
  (kk:∀loc' aS aB h' aU,adr aB=adr aA->Now w G aY L loc' (oM s aE) mm (z3++aS) aB h'->(adr (z3++aS)).Nodup->Hd w aS (a++pg q::b)->Q (cZ q) {s0 with heap:=h',toks:=aU}):
  wpAny (model rw1.prog w) A (eval AD (((b4 fa cdv (k+60)).blk w5sc).env L)) Q E s0:=by
 have hl:(adr aA).length=23:=by simp only[adr,bF];exact n.R.len
 have H1:Hd w (z3++X) ((j2 z3::a)++pg q::b):=p4 ae H
 have hcC:c.C∉(pg q).2:=by
  have:=H1.2
  rw[bi,bZ] at this
  refine λh=>this.2.2 c.C ?_ c.C ?_ rfl
  ·exact List.mem_flatMap.mpr ⟨j2 z3,.head _,bY.mpr ⟨_,hc,rfl⟩⟩
  ·exact List.mem_flatMap.mpr ⟨pg q,.head _,h⟩
 obtain⟨g,eg,Rg,n1,nd1,H2⟩:=Hd.focus H1 n (λc' h=>by rw[hLc] at h;(replace h:=oS h;subst h);exact hcC) ae
 have hql:q.2.length=q.1.grp.length:=by rw[<-show adr g=q.2 from eg];simp only[adr,bF];exact Rg.len
 have e1:adr (aA++g)=adr aA++q.2:=by rw[lO];congr 1
 have n1:Now w G aY L (("row",.lit (cF q))::KQ) (oM s aE++dU 23 [pg q]) mm (minus (z3++X) g) (aA++g) s0.heap:=by
  unfold dU dU
  rw[bQ]
  exact n1
 have n2:=iD n1 (x:="row") (a:=q.2.getD 0 0) (i:=23) rfl (by
  rw[e1,bV (by omega),hl,bC]
  have:0<q.2.length:=by rw[hql];exact Nat.lt_trans Nat.zero_lt_one (LP q.1)
  rw[bR this]
  rfl)
 have n2:Now w G aY L (("row",.obj 23)::KQ) (oM s aE++dU 23 [(q.1.grp,q.2)]) mm (minus (z3++X) g) (aA++g) s0.heap:=n2
 refine(I0 w).Eq _ _ _ _ C (cP (aCo s aE fa cdv k q.2 q.1)) n2 λu5 aM h5 tk5 x5 n5 hv5=>?_
 have e5:adr aM=adr aA++q.2:=(cM x5 n2.R n5.R).trans e1
 obtain⟨xs6,aN,n6,nd6,H6,e6⟩:=rQ (ps:=[(q.1.grp,q.2)]) n5 (by rfl) nd1 H2 (tW5 s aE q.2 q.1) (by rfl) (λp hp=>by rw[bo.mp hp];exact hql) (by rw[bh,LQ];rfl) (r:=adr aA) (by rw[e5];simp) hl (λρ=>FW s aE ρ)
 have H7:Hd w xs6 (j2 z3::(a++pg q::b)):=by
  refine Hd.perm ?_ H6
  show((j2 z3::a++b)++[pg q]).Perm _
  show(j2 z3::(a++b++[pg q])).Perm _
  refine List.Perm.cons _ ?_
  rw[bB]
  exact bJ _ bM
 obtain⟨xs7,n7,nd7,H8⟩:=kF n6 nd6 (λc' h=>by rw[hLc] at h;(replace h:=oS h;subst h);exact hc) H7
 have hv:u5=cZ q:=by
  refine b7 hv5 λx hx z1=>?_;clear hv5;subst z1
  rw[e5,bV (by omega),hl] at hx
  unfold cZ
  rw[bC,show q.2[1]? =some x from hx]
  rfl
 rw[hv]
 exact kk _ xs7 aN h5 tk5 e6 n7 nd7 H8
end
def nW (aF:Bool) (v:SV) (m:Nat) (x:Str):Loc:=dA [("is_empty",.bool aF),("parts",.obj 22),("pieces",v),("many",.int m),("word",.str x)]
section
variable {w:World}
theorem BC {fa:Addr} {cdv:Value}
  (C:Fx w (b4 fa cdv (k+60)) A outer aZ base aY L p loose aC mg mb) {s0:Shared} {s:LS} {wd:Wd} {aF:Bool} {v:SV} {m:Nat} {aD:List (PS×List Addr)} {gs:List Gr} {Q:Value->Shared->Prop} (h5:aD.length<=5)
  (n:Now w G aY L (gP aF v m) (cH (mP s wd) (aD.map cF)) mm X aA s0.heap) (ae:(adr X).Nodup) (H:Hd w X (aD.map pg++gs))
  (kk:∀aS aB h' aU D,adr aB=adr aA++[D]->Now w G aY L (gP aF v m) (hY (mP s wd) (aD.map cF) (aD.map cZ)) mm aS aB h'->(adr aS).Nodup->Hd w aS (aD.map pg++gs)->Q (.ref D) {s0 with heap:=h',toks:=aU}):
  wpAny (model rw1.prog w) A (eval (.ListComp AD tV w5sc aAd) ((b4 fa cdv (k+60)).env L)) Q E s0:=by
 refine AQ C rfl n ae KR aAc (T9 fa cdv (k+60) aF v m) (j:=22) (us:=aD.map cF) (aCq s wd _ fa cdv k aF v m) rfl (by rw[bF];omega)
  (λrem ys st xs=>∃done todo,aD=done++todo/\rem=todo.map cF/\ys=done.map cZ/\st=oM (mP s wd) (aD.map cF)/\Hd w xs (aD.map pg++gs)) ⟨[],aD,rfl,rfl,rfl,rfl,H⟩ ?_ ?_ ?_
 ·rintro r ys st xs ⟨done,todo,hp,_,_,rfl,_⟩
  rfl
 ·intro x r ys st xs aJ h2 aX G' zz e2 c z3 n2 hc nd2 Q' E' k1 Cb;refine OV zz λdone todo hp hr y4 y5 H2=>?_;clear zz;subst y4 y5
  cases todo with
  |nil=>exact xA hr.symm
  |cons q todo=>
  obtain⟨hx,hr2⟩:=List.cons.inj hr
  rw[hx] at n2;rw[hx] at hr
  have e0:aD.map pg++gs=done.map pg++pg q::(todo.map pg++gs):=by rw[hp];simp
  rw[e0] at H2
  refine HI Cb (s0:={s0 with heap:=h2,toks:=aX}) rfl hc n2 nd2 H2 λloc' xs3 aK h3 tk3 e3 n3 nd3 H3=>?_
  refine k1 (cZ q) _ xs3 aK loc' h3 tk3 ⟨done++[q],todo,by rw[hp];simp,hr2,by simp,rfl,by rw[e0];exact H3⟩ (e3.trans e2) n3 nd3
 ·intro ys st xs aJ h2 aX D zz e2 n2 nd2;refine OV zz λdone todo hp hr y4 y5 H2=>?_;clear zz;subst y4 y5
  cases todo with
  |cons=>exact xA hr
  |nil=>
  rw[bQ] at hp
  rw[<-hp] at n2
  refine kk xs aJ h2 aX D e2 ?_ nd2 H2
  have eS:(oM (mP s wd) (aD.map cF)).set 22 (.list ((aD.map cF).map .lit))++[.list ((aD.map cZ).map .lit)]=hY (mP s wd) (aD.map cF) (aD.map cZ):=rfl
  rw[eS] at n2
  exact n2
theorem GY {fa:Addr} {cdv:Value}
  (C:Fx w (b4 fa cdv (k+60)) A [] aZ base aY L p loose aC mg mb) (XB:(K w.params).In base) (TB:Top p loose aC mg mb base) {s0:Shared} {s:LS} {wd:Wd} {aF:Bool} {m:Nat} {aD:List (PS×List Addr)} {ps:List Value} {sa:List Addr} {oth:List Gr} (h5:aD.length<=5)
  (n:Now w G aY L (gP aF (.lit v) m) (cH (mP s wd) (aD.map cF)) mm X aA s0.heap) (ae:(adr X).Nodup) (H:Hd w X (mV aD ((cG (eU aF) ps,sa)::oth) s.eqs)) (ag:s.sec=cS sa) (am:ps.length+1<=100)
  (ao:∀b (fs:List (Fld×List Addr)) sh (oa:List Addr) aV aS aB h' aU,iA wd aF (aD.map (·.1))=.ok (b,fs.map (·.1))->adr aB=adr aA->Now w G aY L (nW aF (.lit v) m "") (cH {mP s wd with eqs:=sh} (aD.map cF)) aV aS aB h'->(adr aS).Nodup->
   Hd w aS (aD.map pg++(fs.map (fg wd)++(sh.grs++(AZ (eU aF) ps sa b (fs.map λf=>cS f.2) oa++oth))))->ShGe s.eqs sh->(∀q∈aD.map (·.1),needs sh q)->Q .next {s0 with heap:=h',toks:=aU})
  (ap:∀er sh aV aS aB h' aU,iA wd aF (aD.map (·.1))=.error er->adr aB=adr aA->Now w G aY L (nW aF (.lit v) m er.word) (cH {mP s wd with eqs:=sh} (aD.map cF)) aV aS aB h'->(adr aS).Nodup->
   Hd w aS (mV aD ((cG (eU aF) ps,sa)::oth) sh)->ShGe s.eqs sh->Q .next {s0 with heap:=h',toks:=aU}):
  wpAny (model rw1.prog w) A (exec (tS 5) ((b4 fa cdv (k+60)).env L)) Q E s0:=by
 have hL:=C.c0 rfl
 have hl:(adr aA).length=23:=by simp only[adr,bF];exact n.R.len
 rw[T3]
 obtain⟨nea,_⟩:=fB (cP (aCk [] s wd (aD.map cF) fa cdv k aF (.lit v) m))
 obtain⟨neb,_⟩:=fB (cP (aCl [] s wd (aD.map cF) fa cdv k aF (.lit v) m))
 have sta:∀r env,starEach (w5a::r) env=(false,eval w5a env)::starEach r env:=λr env=>cR nea
 have stb:∀r env,starEach (UF::r) env=(false,eval UF env)::starEach r env:=λr env=>cR neb
 refine wpAny_Assign_Name (Call_ ((I0 w).Eq _ _ _ _ C (cP (aCp s wd _ fa cdv k aF (.lit v) m)) n λu1 aI h1 aW x1 n1 hv1=>?_)) rfl
 obtain rfl:u1=.ref 1031:=hv1
 refine callWith_K C.X (GM w) (spliced_more ((I0 w).Eq _ _ _ _ C (cP (aCm s wd _ fa cdv k aF (.lit v) m)) n1 λu2 aJ h2 aX x2 n2 hv2=>?_) (sta _ _)) (sta _ _) (by rw[stb];rfl)
 refine spliced_more ((I0 w).Eq _ _ _ _ C (cP (aCn s wd _ fa cdv k aF (.lit v) m)) n2 λu3 aK h3 tk3 x3 n3 hv3=>?_) (stb _ _)
 have e3:adr aK=adr aA:=((cM x3 n2.R n3.R).trans (cM x2 n1.R n2.R)).trans (cM x1 n.R n1.R)
 refine spliced_more (BC C (s0:={s0 with heap:=h3,toks:=tk3}) h5 n3 ae H λxs4 aL h4 tk4 D e4 n4 nd4 H4=>?_)
 refine spliced_none ⟨C.X.keeps n4.F.keep,?_⟩
 have e4':adr aL=adr aA++[D]:=by rw[e4,e3]
 have hvs:RVs (adr aL) [.obj 4,.int wd.n,.obj 23] ([]++[u2,u3,.ref D]):=by
  have x23:Ext (adr aJ) (adr aL):=by rw[e4,cM x3 n2.R n3.R];exact⟨[D],rfl⟩
  have x34:Ext (adr aK) (adr aL):=by rw[e4];exact⟨[D],rfl⟩
  exact⟨hv2.ext x23,hv3.ext x34,⟨D,by rw[e4',bV (by omega),hl];rfl,rfl⟩,trivial⟩
 have t23:(adr aL).take 23=adr aA:=by rw[e4',<-hl,List.take_left]
 have sto:∀{G5:Addr->Obj} {st5:List SO} {mm5:Str->Option Value} {xs5 aM:dJ} {h5:Heap} {tk5:Nat} (x:Str) (t:Tok),Now w G5 aY L (gP aF (.lit v) m) st5 mm5 xs5 aM h5->
   (∀aR h6 tk6,Now w G5 aY L (nW aF (.lit v) m x) st5 aR xs5 aM h6->Q .next {s0 with heap:=h6,toks:=tk6})->
   wpAny (model rw1.prog w) A (storeName ((b4 fa cdv (k+60)).env L) "word" (.str x t)) (λ_=>Q .next) E {s0 with heap:=h5,toks:=tk5}:=fun{G5 st5 mm5 xs5 aM h5 tk5} x t n5 k5=>
  gF (fn:=b4 fa cdv (k+60)) (x:="word") rfl (by rfl) C.hk hL (s:={s0 with heap:=h5,toks:=tk5}) n5 (v:=.str x) ⟨t,rfl⟩ λaR h6 tk6 n6=>k5 aR h6 tk6 n6
 refine wpAny_call (DQ (k:=k+20) (by rfl) rfl C XB TB (s0:={s0 with heap:=h4,toks:=tk4}) (loc2:=gP aF (.lit v) m) (s:=mP s wd) n4 nd4 H4 rfl ag am h5 hvs (λy z hy=>by rw[t23];exact n.V y z hy)
  (λb fs sh oa xs6 aN h6 tk6 t hres e6 n6 nd6 H6 hge hneed=>?_) λer sh xs6 aN h6 tk6 t hres e6 n6 nd6 H6 hge=>?_)
 ·refine sto "" t n6 λmm7 h7 tk7 n7=>?_
  refine HZ (d7 n7 nd6 (tNd _ _ _) (by rfl) H6) λxs8 n8 nd8 _ H8 e8 _=>?_
  have e6':adr aN=adr aA++[D]:=e6.trans e4'
  have e8':adr (eD aN (List.range 23))=adr aA:=by
   rw[e8,take_getD (l:=adr aA) ⟨[D],e6'⟩ (by omega),<-hl,bj]
  rw[selSt_take (by show 23<=24;omega)] at n8
  have n8:Now w G aY L (fJ (adr aN) (List.range 23) (nW aF (.lit v) m "")) ((cH {mP s wd with eqs:=sh} (aD.map cF)).map (cO (adr aN) (List.range 23))) mm7 xs8 (eD aN (List.range 23)) h7:=n8
  rw[eE] at n8
  have hs:fJ (adr aN) (List.range 23) (nW aF (.lit v) m "")=([("width",.cell 0),("collector",.cell 1),("cells",.cell 2),("told",cD (adr aN) (List.range 23) (.obj 20)),("known",cD (adr aN) (List.range 23) (.obj 21)),("is_empty",.bool aF),("parts",cD (adr aN) (List.range 23) (.obj 22)),("pieces",.lit v),("many",.int m),("word",.str "")]:Loc):=rfl
  rw[hs,b0 (by omega),b0 (by omega),b0 (by omega)] at n8
  exact ao b fs sh oa mm7 xs8 _ h7 tk7 hres e8' n8 nd8 (by simpa using H8) hge hneed
 ·refine sto er.word t n6 λmm7 h7 tk7 n7=>?_
  exact ap er sh mm7 xs6 aN h7 tk7 hres (e6.trans t23) n7 nd6 H6 hge
end
def fS (aF:Bool) (v:SV) (m:Nat) (x:Str) (d:SV):Loc:=dA [("is_empty",.bool aF),("parts",.obj 22),("pieces",v),("many",.int m),("word",.str x),("due",d)]
def w6c:Expr:=match tS 6 with| .Assign _ e _=>e|_=>.Constant .none 0 default
def w6q:Pos:=match tS 6 with| .Assign [.Name _ a] _ _=>a|_=>default
def aAf:Pos:=match tS 6 with| .Assign _ _ p=>p|_=>default
def w6f:Expr:=match w6c with| .Call f _ _ _=>f|_=>.Constant .none 0 default
def yD:List Expr:=match w6c with| .Call _ l _ _=>l|_=>[]
def KS:Pos:=match w6c with| .Call _ _ _ p=>p|_=>default
def w6a:Expr:=zM (.Constant .none 0 default) yD 0
def w6b:Expr:=zM (.Constant .none 0 default) yD 1
def w6d:Expr:=zM (.Constant .none 0 default) yD 2
theorem T4:tS 6=.Assign [.Name "due" w6q] (.Call w6f [w6a,w6b,w6d] [] KS) aAf:=by kernel_rfl
theorem aCs (s:LS) (wd:Wd) (aE:List Value) (fa:Addr) (cdv:Value) (k:Nat) (aF:Bool) (v:SV) (m:Nat) (x:Str):E0.E (b4 fa cdv (k+60)) (cH (mP s wd) aE) (nW aF v m x) w6f=.ret (.lit (.ref 1024),cH (mP s wd) aE):=by kernel_rfl
theorem aCr (s:LS) (wd:Wd) (aE:List Value) (fa:Addr) (cdv:Value) (k:Nat) (aF:Bool) (v:SV) (m:Nat) (x:Str):oH E0 (b4 fa cdv (k+60)) (cH (mP s wd) aE) (nW aF v m x) [w6a,w6b,w6d]=.ret ([.obj 22,.int wd.n,.bool aF],cH (mP s wd) aE):=by kernel_rfl
theorem GL (w:World):keepIn (K w.params) (.ref 1024)=true:=by kernel_rfl
section
variable {w:World}
theorem y0 {fa:Addr} {cdv:Value}
  (C:Fx w (b4 fa cdv (k+60)) A outer aZ base aY L p loose aC mg mb) {s0:Shared} {s:LS} {wd:Wd} {aF:Bool} {v:SV} {m:Nat} {x:Str} {aD:List (PS×List Addr)} {oth:List Gr} (h5:aD.length<=5)
  (n:Now w G aY L (nW aF v m x) (cH (mP s wd) (aD.map cF)) mm X aA s0.heap) (ae:(adr X).Nodup) (H:Hd w X (aD.map pg++oth))
  (ao:∀b (fs:List (Fld×List Addr)) (sh:Sh) (da:List Addr) aV aS aB h' aU,iA wd aF (aD.map (·.1))=.ok (b,fs.map (·.1))->adr aB=adr aA->Now w G aY L (fS aF v m x (.lit (cS da))) (cH (mP s wd) (aD.map cF)) aV aS aB h'->(adr aS).Nodup->
   Hd w aS (aD.map pg++(fs.map (pW wd)++(sh.hgs++((jV b (fs.map λf=>cS f.2) sh.srt,da)::oth))))->sh.by_ (aD.map (·.1))->Q .next {s0 with heap:=h',toks:=aU})
  (ap:∀er aV aS aB h' aU,iA wd aF (aD.map (·.1))=.error er->adr aB=adr aA->Now w G aY L (fS aF v m x (.str er.word)) (cH (mP s wd) (aD.map cF)) aV aS aB h'->(adr aS).Nodup->Hd w aS (aD.map pg++oth)->Q .next {s0 with heap:=h',toks:=aU}):
  wpAny (model rw1.prog w) A (exec (tS 6) ((b4 fa cdv (k+60)).env L)) Q E s0:=by
 have hL:=C.c0 rfl
 rw[T4]
 have ev:=aCr s wd (aD.map cF) fa cdv k aF v m x
 obtain⟨ne,_⟩:=fB (cP ev)
 refine wpAny_Assign_Name (Call_ ((I0 w).Eq _ _ _ _ C (cP (aCs s wd _ fa cdv k aF v m x)) n λu1 aI h1 aW x1 n1 hv1=>?_)) rfl
 obtain rfl:u1=.ref 1024:=hv1
 have e1:=cM x1 n.R n1.R
 refine callWith_K C.X (GL w) (Mine.R.sA (I0 w) C (cP ev) n1 λvs st2 us2 aJ h2 aX af x2 n2 hvs=>⟨C.X.keeps n2.F.keep,?_⟩) (cR ne) ?_
 ·first|exact b5 af|(refine pI af λe1 e2=>?_;clear af;subst e1 e2)
  have e2:adr aJ=adr aA:=(cM x2 n1.R n2.R).trans e1
  refine wpAny_call (FK (k:=k+40) (by rfl) rfl C (s0:={s0 with heap:=h2,toks:=aX}) n2 ae H h5 hvs (λb fs sh da xs3 aK h3 tk3 hres e3 n3 nd3 H3 hby=>?_) λer t xs3 aK h3 tk3 hres e3 n3 nd3 H3=>?_)
  ·exact gF (fn:=b4 fa cdv (k+60)) (x:="due") rfl (by rfl) C.hk hL (s:={s0 with heap:=h3,toks:=tk3}) n3 (v:=.lit (cS da)) rfl λmm4 h4 tk4 n4=>ao b fs sh da mm4 xs3 aK h4 tk4 hres (e3.trans e2) n4 nd3 H3 hby
  ·exact gF (fn:=b4 fa cdv (k+60)) (x:="due") rfl (by rfl) C.hk hL (s:={s0 with heap:=h3,toks:=tk3}) n3 (v:=.str er.word) ⟨t,rfl⟩ λmm4 h4 tk4 n4=>ap er mm4 xs3 aK h4 tk4 hres (e3.trans e2) n4 nd3 H3
 ·have any:=fM (pos:=KS) (env:=(b4 fa cdv (k+60)).env L) (cP ev)
  rw[cR ne,bn] at any
  simp only[Bool.false_or] at any
  rw[<-any]
  exact iZ _ _
end
end Mine.L
namespace Mine.R
open Mine Mine.X Mine.L
theorem vM {l:List SO} {i:Nat} {x:SO} (h:l[i]? =some x):l.set i x=l:=by
 apply List.ext_getElem?
 intro j
 rw[bc]
 by_cases e:i=j
 ·subst e
  have:i<l.length:=rV h
  rw[if_pos rfl,if_pos this,h]
 ·rw[if_neg e]
section
variable {w:World}
theorem Now.relitB {h:Heap} (n:Now w G aY L loc st mm xs aA h) {i:Nat} (vs':List SV) (hi:st[i]? =some (.listB k vs)) (ok:vs'.all (gK st.length)=true) (e:vs'.map (lL (adr aA))=vs.map (lL (adr aA))):Now w G aY L loc (st.set i (.list vs')) mm xs aA h:=
 Mine.L.Now.weakA n hi λa o h=>wU (so:=.list vs') (by rw[show(adr aA).length=st.length from by simp only[adr,bF];exact n.R.len];exact ok) (by
  show RO w G _ a (.list (vs'.map (lL (adr aA)))) o
  rw[e]
  exact wV (so:=.list vs) h.1)
theorem Now.unlit {h:Heap} {i:Nat} {so so':SO} (n:Now w G aY L loc (st.set i so') mm xs aA h) (hi:st[i]? =some so) (ok:DT st.length so=true) (e:NW (adr aA) so'=NW (adr aA) so):Now w G aY L loc st mm xs aA h:=by
 have hlt:i<st.length:=rV hi
 have:=n.relit (i:=i) (so:=so') so (by rw[bc,if_pos rfl,if_pos hlt]) (by rw[bq];exact ok) e.symm
 rw[List.set_set,vM hi] at this
 exact this
theorem Now.unlitB {h:Heap} {i:Nat} {vs':List SV} (n:Now w G aY L loc (st.set i (.list vs')) mm xs aA h) (hi:st[i]? =some (.listB k vs)) (ok:vs.all (gK st.length)=true) (hk:vs.length<=k) (e:vs'.map (lL (adr aA))=vs.map (lL (adr aA))):Now w G aY L loc st mm xs aA h:=by
 have hlt:i<st.length:=rV hi
 have:=Mine.L.Now.weakA n (i:=i) (so:=.list vs') (so':=.listB k vs) (by rw[bc,if_pos rfl,if_pos hlt]) λa o h=>wU (so:=.listB k vs) (by rw[show(adr aA).length=st.length from by simp only[adr,bF];rw[n.R.len,bq]];exact ok) (by
  show RO w G _ a (.listB k (vs.map (lL (adr aA)))) o
  rw[<-e]
  exact⟨wV (so:=.list vs') h,by rw[e,bF];exact hk⟩)
 rw[List.set_set,vM hi] at this
 exact this
end
noncomputable def sS (s m d:Nat):List SV:=(List.range' s m d).map .obj
theorem sV {s m d:Nat} (hd:0<d) (h:s+d*m<=k):(sS s m d).all (gK k)=true:=by
 unfold sS
 rw[List.all_map,bO]
 intro j hj
 refine b7 (List.mem_range'.mp hj) λi hi z1=>?_;subst z1
 refine Nat.ble_eq_true_of_le ?_
 have:d*(i+1)<=d*m:=Nat.mul_le_mul_left d hi
 rw[Nat.mul_add] at this
 omega
theorem sU {α:Type} {d:Nat} {tl:List Addr}:∀(fs:List (α×List Addr)) {r:List Addr} {s:Nat},r.length=s->(∀f∈fs,f.2.length=d)->0<d->(sS s fs.length d).map (lL (r++(fs.flatMap (·.2)++tl)))=(fs.map λf=>cS f.2).map .lit
 |[],_,_,_,_,_=>rfl
 |f::fs,r,s,hr,hl,hd=>by
  have h1:=hl f (.head _)
  have ih:=sU (tl:=tl) fs (r:=r++f.2) (s:=s+d) (by rw[bI,hr,h1]) (λg hg=>hl g (.tail _ hg)) hd
  rw[bB] at ih
  have e:sS s (f::fs).length d=.obj s::sS (s+d) fs.length d:=rfl
  rw[e,bL,bL,bL,ba,bB,ih]
  congr 1
  show SV.lit (.ref ((r++(f.2++_)).getD s 0))=.lit (cS f.2)
  have:=d6 (l:=r) (m:=f.2++(fs.flatMap (·.2)++tl)) (i:=0) hr
  rw[Nat.add_zero] at this
  rw[this]
  congr 2
  rw[bC,bU (by omega),<-bC]
theorem i7 (l:List Value):(l.map SV.lit).map (lL ρ)=l.map SV.lit:=by rw[List.map_map];rfl
theorem mT:∀(ps:List Gr) (n:Nat),(dU n ps).length=(ps.flatMap (·.1)).length
 |[],_=>rfl
 |p::r,n=>by
  unfold dU
  rw[bI,bF,mT r,ba,bI]
end Mine.R
namespace Mine.L
open Mine Mine.R Mine.X
noncomputable def sy9 (p:Pos):Bool:=Nat.beq p.line 655
abbrev E9:Ih:=ev tb sy9 40
abbrev I9 (w:World):IhOk w rw1.prog E9:=yR (K9 w) (KOO w) _ 40
abbrev FG:=Fld×List Addr
def tX (l:List FG):List Value:=l.map λf=>cS f.2
def l0 (wd:Wd) (nm:Str) (ps:List Value) (b:Array UInt8) (fs ds:List FG) (hs:List Value) (sa da oa:List Addr):List Gr:=(cG nm (ps++[cS oa]),sa)::(jV b (tX ds) hs,da)::(lB b (tX fs),oa)::(fs.map (fg wd)++ds.map (pW wd))
def vX (s:LS) (aE:List Value) (wd:Wd) (nm:Str) (ps:List Value) (b:Array UInt8) (fs ds:List FG) (hs:List Value) (sa da oa:List Addr):List SO:=cH s aE++dU 23 (l0 wd nm ps b fs ds hs sa da oa)
def tQ (s:LS) (aE:List Value) (wd:Wd) (nm:Str) (ps:List Value) (b:Array UInt8) (fs ds:List FG) (hs:List Value) (sa da oa:List Addr):List SO:=(((vX s aE wd nm ps b fs ds hs sa da oa).set 25 (.listB 100 (ps.map .lit++[.obj 30]))).set 28 (.tup (sS (33+2*fs.length) ds.length 1))).set 32 (.list (sS 33 fs.length 2))
noncomputable def tN6:List Str:=["width","collector","cells","told","known","due"]
noncomputable def K5 (d:SV):List SV:=[.cell 0,.cell 1,.cell 2,.obj 20,.obj 21,d]
def eqF (wd:Wd) (f:Fld):Bool:=(f.at_==f.at_&&((wd.n:Int)==(wd.n:Int)&&(seq f.nm f.nm&&(f.c==f.c&&(seq "abs" "abs"&&true)))))
noncomputable def LN (wd:Wd):List FG->Bool
 |[]=>true
 |f::r=>eqF wd f.1&&LN wd r
def c9 (wd:Wd) (b:Array UInt8) (fs:List FG):Bool:=!(seq "octets" "octets"&&(decide (b.toList=b.toList)&&(LN wd fs&&true)))
theorem rM (wd:Wd):∀fs,LN wd fs=true
 |[]=>rfl
 |f::r=>by
  unfold LN eqF
  rw[rM wd r]
  simp[seq_iff]
theorem EH (wd:Wd) (b:Array UInt8) (fs:List FG):c9 wd b fs=false:=by
 unfold c9
 rw[rM]
 simp[seq_iff]
def lf9 (f:Flo) (s:LS) (aE:List Value) (wd:Wd) (nm:Str) (ps:List Value) (b:Array UInt8) (fs ds:List FG) (hs:List Value) (sa da oa:List Addr):Option Lf:=some ⟨f,tQ s aE wd nm ps b fs ds hs sa da oa,[],(K5 (.obj 27)).map some⟩
def ZV (ρ:List Addr) (s:LS) (aE:List Value) (wd:Wd) (aF:Bool) (nm:Str) (ps:List Value) (b:Array UInt8) (fs ds:List FG) (hs:List Value) (sa da oa:List Addr) (fa:Addr) (cdv:Value) (k:Nat):Tr (Option Lf):=cX (lf ρ (33+3*fs.length) [] tN6) (E9.S (b4 fa cdv (k+60)) (tQ s aE wd nm ps b fs ds hs sa da oa) (fS aF (.obj 25) ps.length "" (.obj 27)) [tS 7,tS 8,tS 9])
def ZJ (s:LS) (aE:List Value) (wd:Wd) (nm:Str) (ps:List Value) (b:Array UInt8) (fs ds:List FG) (hs:List Value) (sa da oa:List Addr):Tr (Option Lf):=.br (c9 wd b fs) (.ret (lf9 (.ret (.bool false)) s aE wd nm ps b fs ds hs sa da oa)) (.ret (lf9 .next s aE wd nm ps b fs ds hs sa da oa))
noncomputable def zF (t:Fld×List Addr×List Addr):FG:=(t.1,t.2.1)
noncomputable def zD (t:Fld×List Addr×List Addr):FG:=(t.1,t.2.2)
def nZ (ps:List Value) (l:List (Fld×List Addr×List Addr)):Prop:=∀(ρ:List Addr) (s:LS) (aE:List Value) (wd:Wd) (aF:Bool) (nm:Str) (x:UInt8) (r:List UInt8) (hs:List Value) (sa da oa:List Addr) (fa:Addr) (cdv:Value) (k:Nat),ZV ρ s aE wd aF nm ps ⟨x::r⟩ (l.map zF) (l.map zD) hs sa da oa fa cdv k=ZJ s aE wd nm ps ⟨x::r⟩ (l.map zF) (l.map zD) hs sa da oa
theorem SG:nZ [] []:=λρ s aE wd aF nm x r hs sa da oa fa cdv k=>by kernel_rfl
theorem SH (t0:Fld×List Addr×List Addr):nZ [] [t0]:=λρ s aE wd aF nm x r hs sa da oa fa cdv k=>by kernel_rfl
theorem SJ (t0 t1:Fld×List Addr×List Addr):nZ [] [t0,t1]:=λρ s aE wd aF nm x r hs sa da oa fa cdv k=>by kernel_rfl
theorem SK (t0 t1 t2:Fld×List Addr×List Addr):nZ [] [t0,t1,t2]:=λρ s aE wd aF nm x r hs sa da oa fa cdv k=>by kernel_rfl
theorem SL (t0 t1 t2 t3:Fld×List Addr×List Addr):nZ [] [t0,t1,t2,t3]:=λρ s aE wd aF nm x r hs sa da oa fa cdv k=>by kernel_rfl
theorem SM (t0 t1 t2 t3 t4:Fld×List Addr×List Addr):nZ [] [t0,t1,t2,t3,t4]:=λρ s aE wd aF nm x r hs sa da oa fa cdv k=>by kernel_rfl
theorem SN (u0:Value):nZ [u0] []:=λρ s aE wd aF nm x r hs sa da oa fa cdv k=>by kernel_rfl
theorem SP (u0:Value) (t0:Fld×List Addr×List Addr):nZ [u0] [t0]:=λρ s aE wd aF nm x r hs sa da oa fa cdv k=>by kernel_rfl
theorem SQ (u0:Value) (t0 t1:Fld×List Addr×List Addr):nZ [u0] [t0,t1]:=λρ s aE wd aF nm x r hs sa da oa fa cdv k=>by kernel_rfl
theorem SR (u0:Value) (t0 t1 t2:Fld×List Addr×List Addr):nZ [u0] [t0,t1,t2]:=λρ s aE wd aF nm x r hs sa da oa fa cdv k=>by kernel_rfl
theorem SU (u0:Value) (t0 t1 t2 t3:Fld×List Addr×List Addr):nZ [u0] [t0,t1,t2,t3]:=λρ s aE wd aF nm x r hs sa da oa fa cdv k=>by kernel_rfl
theorem SW (u0:Value) (t0 t1 t2 t3 t4:Fld×List Addr×List Addr):nZ [u0] [t0,t1,t2,t3,t4]:=λρ s aE wd aF nm x r hs sa da oa fa cdv k=>by kernel_rfl
theorem SX (u0 u1:Value):nZ [u0,u1] []:=λρ s aE wd aF nm x r hs sa da oa fa cdv k=>by kernel_rfl
theorem SY (u0 u1:Value) (t0:Fld×List Addr×List Addr):nZ [u0,u1] [t0]:=λρ s aE wd aF nm x r hs sa da oa fa cdv k=>by kernel_rfl
theorem SZ (u0 u1:Value) (t0 t1:Fld×List Addr×List Addr):nZ [u0,u1] [t0,t1]:=λρ s aE wd aF nm x r hs sa da oa fa cdv k=>by kernel_rfl
theorem S0 (u0 u1:Value) (t0 t1 t2:Fld×List Addr×List Addr):nZ [u0,u1] [t0,t1,t2]:=λρ s aE wd aF nm x r hs sa da oa fa cdv k=>by kernel_rfl
theorem S1 (u0 u1:Value) (t0 t1 t2 t3:Fld×List Addr×List Addr):nZ [u0,u1] [t0,t1,t2,t3]:=λρ s aE wd aF nm x r hs sa da oa fa cdv k=>by kernel_rfl
theorem S2 (u0 u1:Value) (t0 t1 t2 t3 t4:Fld×List Addr×List Addr):nZ [u0,u1] [t0,t1,t2,t3,t4]:=λρ s aE wd aF nm x r hs sa da oa fa cdv k=>by kernel_rfl
theorem S3 (u0 u1 u2:Value):nZ [u0,u1,u2] []:=λρ s aE wd aF nm x r hs sa da oa fa cdv k=>by kernel_rfl
theorem S4 (u0 u1 u2:Value) (t0:Fld×List Addr×List Addr):nZ [u0,u1,u2] [t0]:=λρ s aE wd aF nm x r hs sa da oa fa cdv k=>by kernel_rfl
theorem S5 (u0 u1 u2:Value) (t0 t1:Fld×List Addr×List Addr):nZ [u0,u1,u2] [t0,t1]:=λρ s aE wd aF nm x r hs sa da oa fa cdv k=>by kernel_rfl
theorem S6 (u0 u1 u2:Value) (t0 t1 t2:Fld×List Addr×List Addr):nZ [u0,u1,u2] [t0,t1,t2]:=λρ s aE wd aF nm x r hs sa da oa fa cdv k=>by kernel_rfl
theorem S7 (u0 u1 u2:Value) (t0 t1 t2 t3:Fld×List Addr×List Addr):nZ [u0,u1,u2] [t0,t1,t2,t3]:=λρ s aE wd aF nm x r hs sa da oa fa cdv k=>by kernel_rfl
theorem S8 (u0 u1 u2:Value) (t0 t1 t2 t3 t4:Fld×List Addr×List Addr):nZ [u0,u1,u2] [t0,t1,t2,t3,t4]:=λρ s aE wd aF nm x r hs sa da oa fa cdv k=>by kernel_rfl
theorem KV:∀(fs ds:List FG),fs.map (·.1)=ds.map (·.1)->∃l:List (Fld×List Addr×List Addr),fs=l.map zF/\ds=l.map zD
 |[],[],_=>⟨[],rfl,rfl⟩
 |(f,a)::fs,(g,d)::ds,h=>by
  obtain⟨h1,h2⟩:=List.cons.inj h
  refine b7 (KV fs ds h2) λl e1 e2=>?_
  have h1:f=g:=h1
  subst h1
  exact⟨(f,a,d)::l,by rw[e1];rfl,by rw[e2];rfl⟩
theorem eC {α:Type} {P:List α->Prop} (n:Nat) (l:List α) (h:l.length<=n+1) (h0:P []) (h1:∀a t,t.length<=n->P (a::t)):P l:=by
 cases l with
 |nil=>exact h0
 |cons a t=>exact h1 a t (Nat.le_of_succ_le_succ h)
theorem eN {α:Type} {P:List α->Prop} (l:List α) (h:l.length<=0) (h0:P []):P l:=by rw[bv (Nat.le_zero.mp h)];exact h0
@[elab_as_elim] theorem e3 {α:Type} {P:List α->Prop} (l:List α) (h:l.length<=3) (h0:P []) (h1:∀a,P [a]) (h2:∀a b,P [a,b]) (h3:∀a b c,P [a,b,c]):P l:=
 eC 2 l h h0 λa t h=>eC (P:=λt=>P (a::t)) 1 t h (h1 a) λb t h=>eC (P:=λt=>P (a::b::t)) 0 t h (h2 a b) λc t h=>eN (P:=λt=>P (a::b::c::t)) t h (h3 a b c)
@[elab_as_elim] theorem e5 {α:Type} {P:List α->Prop} (l:List α) (h:l.length<=5) (h0:P []) (h1:∀a,P [a]) (h2:∀a b,P [a,b]) (h3:∀a b c,P [a,b,c]) (h4:∀a b c d,P [a,b,c,d]) (h5:∀a b c d e,P [a,b,c,d,e]):P l:=
 eC 4 l h h0 λa t h=>eC (P:=λt=>P (a::t)) 3 t h (h1 a) λb t h=>e3 (P:=λt=>P (a::b::t)) t h (h2 a b) (h3 a b) (h4 a b) (h5 a b)
theorem r9 (ps:List Value) (l:List (Fld×List Addr×List Addr)) (h1:ps.length<=3) (h2:l.length<=5):nZ ps l:=
 e3 ps h1 (e5 l h2 SG SH SJ SK SL SM)
  (λa=>e5 l h2 (SN a) (SP a) (SQ a) (SR a) (SU a) (SW a))
  (λa b=>e5 l h2 (SX a b) (SY a b) (SZ a b) (S0 a b) (S1 a b) (S2 a b))
  (λa b c=>e5 l h2 (S3 a b c) (S4 a b c) (S5 a b c) (S6 a b c) (S7 a b c) (S8 a b c))
theorem aCf (s:LS) (aE:List Value) (wd:Wd) (nm:Str) (ps:List Value) (b:Array UInt8) (l:List (Fld×List Addr×List Addr)) (hs:List Value) (sa da oa:List Addr) (h2:l.length<=5):
  dC (vX s aE wd nm ps b (l.map zF) (l.map zD) hs sa da oa) 23 (OU 23 (l0 wd nm ps b (l.map zF) (l.map zD) hs sa da oa))=true:=by
 refine e5 l h2 ?_ ?_ ?_ ?_ ?_ ?_<;>intros<;>kernel_rfl
theorem oX (b:Array UInt8) (ds hs:List Value):(jV b ds hs).all (lD (jV b ds hs).length)=true:=by
 show(lD 3 _&&(lD 3 (.tup (ds.map .lit))&&(lD 3 (.list (hs.map .lit))&&true)))=true
 rw[show lD 3 (.tup (ds.map .lit))=true from f7 ds,show lD 3 (.list (hs.map .lit))=true from f7 hs]
 rfl
theorem MR (b:Array UInt8) (fx:List Value):(lB b fx).all (lD (lB b fx).length)=true:=by
 show(lD 3 _&&(lD 3 _&&(lD 3 (.listB 5 (fx.map .lit))&&true)))=true
 rw[show lD 3 (.listB 5 (fx.map .lit))=true from f7 fx]
 rfl
theorem yS (wd:Wd) (nm:Str) (ps:List Value) (b:Array UInt8) (fs ds:List FG) (hs:List Value) (sa da oa:List Addr):((l0 wd nm ps b fs ds hs sa da oa).all λp=>p.1.all (lD p.1.length))=true:=by
 unfold l0
 rw[bh,bh,bh,List.all_append,jI,oX,MR,List.all_map,List.all_map]
 simp only[Bool.true_and,bG,bO]
 exact⟨λp _=>(show((fg wd p).1.all (lD (fg wd p).1.length))=true by kernel_rfl),λp _=>(show((pW wd p).1.all (lD (pW wd p).1.length))=true by kernel_rfl)⟩
theorem rN {k k':Nat} (h:k<=k'):∀{v:SV},uI k v=true->uI k' v=true
 | .obj i,e=>Nat.ble_eq_true_of_le (bl (bA e) h)
 | .none,_=>rfl
 | .bool _,_=>rfl
 | .int _,_=>rfl
 | .str _,_=>rfl
 | .bytes _ _,_=>rfl
 | .lit _,_=>rfl
 | .cell _,_=>rfl
theorem wT {α:Type} (f:α->Gr) (d:Nat) (h:∀a,(f a).1.length=d):∀l:List α,((l.map f).flatMap (·.1)).length=d*l.length
 |[]=>rfl
 |a::l=>by rw[bL,ba,bI,h,wT f d h l,List.length_cons,Nat.mul_add];omega
theorem uL (wd:Wd) (nm:Str) (ps:List Value) (b:Array UInt8) (fs ds:List FG) (hs:List Value) (sa da oa:List Addr):((l0 wd nm ps b fs ds hs sa da oa).flatMap (·.1)).length=10+(2*fs.length+1*ds.length):=by
 unfold l0
 rw[ba,ba,ba,bi,bI,bI,bI,bI,wT (fg wd) 2 (λa=>rfl),wT (pW wd) 1 (λa=>rfl)]
 show 4+(3+(3+_))=_
 omega
theorem NA (s:LS) (aE:List Value) (wd:Wd) (nm:Str) (ps:List Value) (b:Array UInt8) (fs ds:List FG) (hs:List Value) (sa da oa:List Addr):(vX s aE wd nm ps b fs ds hs sa da oa).length=33+(2*fs.length+ds.length):=by
 unfold vX
 rw[bI,mT,uL]
 show 23+_=_
 omega
theorem gT {k k':Nat} (h:k<=k') {l:List SV} (e:l.all (gK k)=true):l.all (gK k')=true:=by
 rw[bO] at e ⊢
 intro v hv
 have:=e v hv
 cases v with
 |obj i=>exact Nat.ble_eq_true_of_le (bl (bA this) h)
 |cell i=>exact this
 |_=>rfl
def nX (d:SV):Loc:=dA [("due",d)]
theorem KH (ρ:List Addr) (s:LS) (aE:List Value) (wd:Wd) (nm:Str) (ps:List Value) (b:Array UInt8) (fs ds:List FG) (hs:List Value) (sa da oa:List Addr) (hlen2:ds.length=fs.length):(tQ s aE wd nm ps b fs ds hs sa da oa).map (cO ρ (List.range (33+3*fs.length)))=tQ s aE wd nm ps b fs ds hs sa da oa:=by
 have f1:=iO s aE ρ (k:=33+3*fs.length) (by omega)
 have f2:=iN (ρ:=ρ) (k:=33+3*fs.length) (n:=23) (l0 wd nm ps b fs ds hs sa da oa) (yS wd nm ps b fs ds hs sa da oa) (by rw[uL];omega)
 have f3:cO ρ (List.range (33+3*fs.length)) (SO.listB 100 (ps.map SV.lit++[SV.obj 30]))=SO.listB 100 (ps.map SV.lit++[SV.obj 30]):=iE (by
  show((ps.map SV.lit++[SV.obj 30]).all (gK _))=true
  rw[List.all_append,f7,Bool.true_and]
  exact gT (k:=31) (by omega) rfl)
 have f4:cO ρ (List.range (33+3*fs.length)) (SO.tup (sS (33+2*fs.length) ds.length 1))=SO.tup (sS (33+2*fs.length) ds.length 1):=iE (sV (by omega) (by omega))
 have f5:cO ρ (List.range (33+3*fs.length)) (SO.list (sS 33 fs.length 2))=SO.list (sS 33 fs.length 2):=iE (sV (by omega) (by omega))
 delta tQ vX
 rw[List.map_set,List.map_set,List.map_set,bH,f1,f2,f3,f4,f5]
section
variable {w:World}
theorem D6 {b:Array UInt8} (hb:b.size≠0):∃x r,b=⟨x::r⟩:=by
 cases b with
 |mk l=>cases l with
  |nil=>exact absurd rfl hb
  |cons x r=>exact⟨x,r,rfl⟩
theorem pY {l a m:List Addr} {n i:Nat} (h:l.length=n) (hi:i<a.length):(l++(a++m)).getD (n+i) 0=a.getD i 0:=by
 rw[d6 h,bC,bU hi,<-bC]
theorem lfs:∀l:List FG,(∀f∈l,f.2.length=2)->(l.flatMap (·.2)).length=2*l.length:=by
 intro l
 induction l with
 |nil=>intro _;rfl
 |cons a l ih=>intro h;rw[ba,bI,h a (.head _),ih λf hf=>h f (.tail _ hf),List.length_cons];omega
theorem hfv (j:Nat):(K5 (.obj 27)).all (uI (33+j))=true:=by
 rw[bO]
 intro v hv
 exact rN (k:=33) (by omega) (bO.mp (show(K5 (.obj 27)).all (uI 33)=true from rfl) v hv)
theorem LX (j:Nat):(K5 (.obj 27)).all (eW (33+j))=true:=by
 rw[bO]
 intro v hv
 simp only[K5,bX,List.not_mem_nil,or_false] at hv
 rcases hv with rfl|rfl|rfl|rfl|rfl|rfl<;>first|rfl|exact Nat.ble_eq_true_of_le (by omega)
theorem GV {fa:Addr} {cdv:Value}
  (C:Fx w (b4 fa cdv (k+60)) A outer aZ base aY L p loose aC mg mb) {s0:Shared} {s:LS} {aE:List Value} {wd:Wd} {aF:Bool} {nm:Str} {ps:List Value} {b:Array UInt8} {fs ds:List FG} {hs:List Value} {sa da oa:List Addr} {rest:List Gr} (PE:PassesOwn (model rw1.prog w) A ((b4 fa cdv (k+60)).env L) E)
  (am:ps.length<=3) (hfs:fs.length<=5) (hfd:fs.map (·.1)=ds.map (·.1)) (hb:b.size≠0)
  (n:Now w G aY L (fS aF (.lit (.ref (sa.getD 2 0))) ps.length "" (.lit (cS da))) (cH s aE) mm X aA s0.heap) (ae:(adr X).Nodup) (H:Hd w X (l0 wd nm ps b fs ds hs sa da oa++rest))
  (kk:∀aV aS aB h' aU,adr aB=adr aA->Now w G aY L (nX (.lit (cS da))) (cH s aE) aV aS aB h'->(adr aS).Nodup->Hd w aS (rest++l0 wd nm ps b fs ds hs sa da oa)->Q .next {s0 with heap:=h',toks:=aU}):
  wpAny (model rw1.prog w) A (execs [tS 7,tS 8,tS 9] ((b4 fa cdv (k+60)).env L)) Q E s0:=by
 have hl:(adr aA).length=23:=by simp only[adr,bF];exact n.R.len
 have hL:=C.c0 rfl
 obtain⟨x,r,rfl⟩:=D6 hb
 have hlen2:ds.length=fs.length:=by
  have:=congrArg List.length hfd
  rw[bF,bF] at this
  exact this.symm
 refine OV (Hd.focusL (l0 wd nm ps ⟨x::r⟩ fs ds hs sa da oa) H n hL ae) λxs1 aI n1 nd1 H1 e1 l1=>?_
 have e1:adr aI=adr aA++(sa++(da++(oa++(fs.flatMap (·.2)++ds.flatMap (·.2))))):=by
  rw[e1]
  unfold l0
  rw[ba,ba,ba,bi,List.flatMap_map,List.flatMap_map]
  rfl
 have hsa:sa.length=4:=l1 (cG nm (ps++[cS oa]),sa) (.head _)
 have hda:da.length=3:=l1 (jV ⟨x::r⟩ (tX ds) hs,da) (.tail _ (.head _))
 have hoa:oa.length=3:=l1 (lB ⟨x::r⟩ (tX fs),oa) (.tail _ (.tail _ (.head _)))
 have hfa:∀f∈fs,f.2.length=2:=λf hf=>l1 (fg wd f) (.tail _ (.tail _ (.tail _ (bK _ (bY.mpr ⟨f,hf,rfl⟩)))))
 have hdd:∀f∈ds,f.2.length=1:=λf hf=>l1 (pW wd f) (.tail _ (.tail _ (.tail _ (ay _ (bY.mpr ⟨f,hf,rfl⟩)))))
 have n1:Now w G aY L (fS aF (.lit (.ref (sa.getD 2 0))) ps.length "" (.lit (cS da))) (vX s aE wd nm ps ⟨x::r⟩ fs ds hs sa da oa) mm xs1 aI s0.heap:=n1
 have hN:=NA s aE wd nm ps ⟨x::r⟩ fs ds hs sa da oa
 rw[hlen2] at hN
 have facts:∀ρ:List Addr,ρ=adr aA++(sa++(da++(oa++(fs.flatMap (·.2)++ds.flatMap (·.2)))))->
   ρ.getD 25 0=sa.getD 2 0/\ρ.getD 27 0=da.getD 0 0/\
   ((ps.map SV.lit++[SV.obj 30]).map (lL ρ)=((ps++[cS oa]).map SV.lit).map (lL ρ))/\
   ((sS (33+2*fs.length) ds.length 1).map (lL ρ)=((tX ds).map SV.lit).map (lL ρ))/\((sS 33 fs.length 2).map (lL ρ)=((tX fs).map SV.lit).map (lL ρ)):=by
  intro ρ hρ
  have h25:ρ.getD 25 0=sa.getD 2 0:=by
   rw[hρ]
   exact pY (i:=2) hl (by omega)
  have h27:ρ.getD 27 0=da.getD 0 0:=by
   rw[hρ]
   exact(d6 (i:=4) hl).trans (pY (i:=0) hsa (by omega))
  have h30:ρ.getD 30 0=oa.getD 0 0:=by
   rw[hρ]
   exact(d6 (i:=7) hl).trans ((d6 (i:=3) hsa).trans (pY (i:=0) hda (by omega)))
  have len33:(adr aA++(sa++(da++oa))).length=33:=by simp[hsa,hda,hoa,hl]<;>omega
  have hρ1:ρ=(adr aA++(sa++(da++oa)))++(fs.flatMap (·.2)++ds.flatMap (·.2)):=by rw[hρ];simp only[bB]
  refine⟨h25,h27,?_,?_,?_⟩
  ·rw[bH,bH,bH,i7]
   congr 1
   show [SV.lit (.ref (ρ.getD 30 0))]=[SV.lit (cS oa)]
   rw[h30]
   rfl
  ·have:=sU (tl:=[]) ds (r:=(adr aA++(sa++(da++oa)))++fs.flatMap (·.2)) (s:=33+2*fs.length) (by rw[bI,len33,lfs fs hfa]) hdd (by omega)
   rw[bQ,bB,<-hρ1] at this
   rw[this,i7]
   rfl
  ·have:=sU (tl:=ds.flatMap (·.2)) fs (r:=adr aA++(sa++(da++oa))) (s:=33) len33 hfa (by omega)
   rw[<-hρ1] at this
   rw[this,i7]
   rfl
 refine q05 (facts _ e1) λf25 f27 g25 g28 g32=>?_
 have hl1:(adr aI).length=33+(2*fs.length+fs.length):=by simp only[adr,bF];rw[n1.R.len,hN]
 have at_:∀i,i<33->(adr aI)[i]? =some ((adr aI).getD i 0):=λi hi=>by
  rw[bC,bR (by omega)]
  rfl
 have n2:=iD n1 (x:="pieces") (a:=sa.getD 2 0) (i:=25) rfl (by rw[at_ 25 (by omega),f25])
 replace n2:=iD n2 (x:="due") (a:=da.getD 0 0) (i:=27) rfl (by rw[at_ 27 (by omega),f27])
 have n2:Now w G aY L (fS aF (.obj 25) ps.length "" (.obj 27)) (vX s aE wd nm ps ⟨x::r⟩ fs ds hs sa da oa) mm xs1 aI s0.heap:=n2
 have i25:(vX s aE wd nm ps ⟨x::r⟩ fs ds hs sa da oa)[25]? =some (.listB 100 ((ps++[cS oa]).map .lit)):=by
  rw[show(vX s aE wd nm ps ⟨x::r⟩ fs ds hs sa da oa)[25]? =some (.listB 100 (((ps++[cS oa]).map .lit).map (qX 23))) from rfl,hX]
 have i28:((vX s aE wd nm ps ⟨x::r⟩ fs ds hs sa da oa).set 25 (.listB 100 (ps.map .lit++[.obj 30])))[28]? =some (.tup ((tX ds).map .lit)):=by
  rw[show((vX s aE wd nm ps ⟨x::r⟩ fs ds hs sa da oa).set 25 (.listB 100 (ps.map .lit++[.obj 30])))[28]? =some (.tup (((tX ds).map .lit).map (qX 27))) from rfl,hX]
 have i32:(((vX s aE wd nm ps ⟨x::r⟩ fs ds hs sa da oa).set 25 (.listB 100 (ps.map .lit++[.obj 30]))).set 28 (.tup (sS (33+2*fs.length) ds.length 1)))[32]? =some (.listB 5 ((tX fs).map .lit)):=by
  rw[show(((vX s aE wd nm ps ⟨x::r⟩ fs ds hs sa da oa).set 25 (.listB 100 (ps.map .lit++[.obj 30]))).set 28 (.tup (sS (33+2*fs.length) ds.length 1)))[32]? =some (.listB 5 (((tX fs).map .lit).map (qX 30))) from rfl,hX]
 have ok25:DT (33+(2*fs.length+fs.length)) (.listB 100 (ps.map .lit++[.obj 30]))=true:=by
  show((ps.map SV.lit++[SV.obj 30]).all (gK _))=true
  rw[List.all_append,f7,Bool.true_and]
  exact gT (k:=31) (by omega) rfl
 have ok28:DT (33+(2*fs.length+fs.length)) (.tup (sS (33+2*fs.length) ds.length 1))=true:=sV (by omega) (by omega)
 have ok32:(sS 33 fs.length 2).all (gK (33+(2*fs.length+fs.length)))=true:=sV (by omega) (by omega)
 have n3:=n2.relit (i:=25) (.listB 100 (ps.map .lit++[.obj 30])) i25 (by rw[hN];exact ok25) (congrArg (SO.listB 100) g25)
 replace n3:=n3.relit (i:=28) (.tup (sS (33+2*fs.length) ds.length 1)) i28 (by rw[bq,hN];exact ok28) (congrArg SO.tup g28)
 replace n3:=n3.relitB (i:=32) (sS 33 fs.length 2) i32 (by rw[bq,bq,hN];exact ok32) g32
 have n3:Now w G aY L (fS aF (.obj 25) ps.length "" (.obj 27)) (tQ s aE wd nm ps ⟨x::r⟩ fs ds hs sa da oa) mm xs1 aI s0.heap:=n3
 refine b7 (KV fs ds hfd) λl hl1' hl2'=>?_
 have hll:l.length<=5:=by rw[hl1',bF] at hfs;exact hfs
 have e33:33+(2*fs.length+fs.length)=33+3*fs.length:=by omega
 refine sB (ih:=E9) (ι:=Unit) (I9 w) C rfl (s:=s0) (loc:=fS aF (.obj 25) ps.length "" (.obj 27)) (st:=tQ s aE wd nm ps ⟨x::r⟩ fs ds hs sa da oa) (b:=[tS 7,tS 8,tS 9]) PE n3 nd1 H1 (k:=33+3*fs.length) (pis:=[]) (ns:=tN6) (st1:=λ_=>tQ s aE wd nm ps ⟨x::r⟩ fs ds hs sa da oa) (gs1:=λ_ _=>[]) (vs:=λ_=>K5 (.obj 27)) (λ_=>LX _) (λρ=>?_) λi ρ xs4 mm4 aL h4 tk4 x4 ea4 n4 nd4 H4=>?_
 ·have:=r9 ps l am hll ρ s aE wd aF nm x r hs sa da oa fa cdv k
  rw[<-hl1',<-hl2'] at this
  unfold ZV ZJ at this
  rw[this]
  exact⟨λe=>absurd e (by rw[EH];exact Bool.false_ne_true),λ_=>⟨(),rfl⟩⟩
 have H4:Hd w xs4 rest:=by simpa using H4
 have e4:adr aL=adr aA++(sa++(da++(oa++(fs.flatMap (·.2)++ds.flatMap (·.2))))):=by
  rw[ea4,take_getD x4 (by omega),<-e33,<-hl1,bj,e1]
 have fix:=λρ=>KH ρ s aE wd nm ps ⟨x::r⟩ fs ds hs sa da oa hlen2
 rw[fix,gY (hfv _)] at n4
 refine q05 (facts _ e4) λ_ f27' g25' g28' g32'=>?_
 have lok:∀(k:Nat) (l:List Value),DT k (.tup (l.map .lit))=true:=λk l=>f7 l
 have lok2:∀(k:Nat) (l:List Value),DT k (.listB 100 (l.map .lit))=true:=λk l=>f7 l
 have lok3:((tX fs).map SV.lit).length<=5:=by rw[bF];unfold tX;rw[bF];exact hfs
 unfold tQ at n4
 have n5:=n4.unlitB i32 (f7 (tX fs)) lok3 g32'
 have n6:=n5.unlit i28 (lok _ _) (congrArg SO.tup g28')
 have n7:=n6.unlit i25 (lok2 _ _) (congrArg (SO.listB 100) g25')
 have tok:=aCf s aE wd nm ps ⟨x::r⟩ l hs sa da oa hll
 rw[<-hl1',<-hl2'] at tok
 obtain⟨xs6,aN,n8,nd6,H6,e6⟩:=rQ (st0:=cH s aE) (k:=23) (ps:=l0 wd nm ps ⟨x::r⟩ fs ds hs sa da oa) n7 (by rfl) nd4 H4 tok (by rfl) l1 (yS _ _ _ _ _ _ _ _ _ _) (r:=adr aA) (by
  rw[e4]
  unfold l0
  rw[ba,ba,ba,bi,List.flatMap_map,List.flatMap_map]
  rfl) hl (λρ=>eE s aE ρ)
 refine kk mm4 xs6 aN h4 tk4 e6 ?_ nd6 H6
 have h1:fJ (adr aL) (List.range 23) (tN6.zip (K5 (.obj 27)))=([("width",.cell 0),("collector",.cell 1),("cells",.cell 2),("told",cD (adr aL) (List.range 23) (.obj 20)),("known",cD (adr aL) (List.range 23) (.obj 21)),("due",cD (adr aL) (List.range 23) (.obj 27))]:Loc):=rfl
 rw[h1,b0 (by omega),b0 (by omega),cJ (by omega),f27'] at n8
 exact n8
end
def oP (nm:Str) (ps:List Value) (b:Array UInt8) (hs:List Value) (sa da:List Addr):List Gr:=[(cG nm ps,sa),(jV b [] hs,da)]
def K4 (s:LS) (aE:List Value) (nm:Str) (ps:List Value) (b:Array UInt8) (hs:List Value) (sa da:List Addr):List SO:=cH s aE++dU 23 (oP nm ps b hs sa da)
theorem NC (ρ:List Addr) (s:LS) (aE:List Value) (nm:Str) (ps:List Value) (b:Array UInt8) (hs:List Value) (sa da:List Addr):(K4 s aE nm ps b hs sa da).map (cO ρ (List.range 30))=K4 s aE nm ps b hs sa da:=by
 have f1:=iO s aE ρ (k:=30) (by omega)
 have f2:=iN (ρ:=ρ) (k:=30) (n:=23) (oP nm ps b hs sa da) (by unfold oP;rw[bh,bh,jI,oX];rfl) (by show 23+7<=30;omega)
 unfold K4
 rw[bH,f1,f2]
theorem aCg (s:LS) (aE:List Value) (nm:Str) (ps:List Value) (b:Array UInt8) (hs:List Value) (sa da:List Addr):dC (K4 s aE nm ps b hs sa da) 23 (OU 23 (oP nm ps b hs sa da))=true:=by kernel_rfl
def tP (s:LS) (aE:List Value) (nm:Str) (ps:List Value) (sa:List Addr):List SO:=cH s aE++dU 23 [(cG nm ps,sa)]
theorem KC (ρ:List Addr) (s:LS) (aE:List Value) (nm:Str) (ps:List Value) (sa:List Addr):(tP s aE nm ps sa).map (cO ρ (List.range 27))=tP s aE nm ps sa:=by
 have f1:=iO s aE ρ (k:=27) (by omega)
 have f2:=iN (ρ:=ρ) (k:=27) (n:=23) [(cG nm ps,sa)] (by rw[bh,jI];rfl) (by show 23+4<=27;omega)
 unfold tP
 rw[bH,f1,f2]
noncomputable def tN7:List Str:=["width","collector","cells","told","known"]
noncomputable def tV7:List SV:=[.cell 0,.cell 1,.cell 2,.obj 20,.obj 21]
theorem rN9 (ρ:List Addr) (s:LS) (aE:List Value) (aF:Bool) (nm:Str) (ps:List Value) (hs:List Value) (sa da:List Addr) (fa:Addr) (cdv:Value) (k:Nat) (h1:ps.length<=3):
  cX (lf ρ 30 [] tN6) (E0.S (b4 fa cdv (k+60)) (K4 s aE nm ps #[] hs sa da) (fS aF (.obj 25) ps.length "" (.obj 27)) [tS 7,tS 8,tS 9])=.ret (some ⟨.next,K4 s aE nm ps #[] hs sa da,[],(K5 (.obj 27)).map some⟩):=by
 refine e3 ps h1 ?_ ?_ ?_ ?_<;>intros<;>kernel_rfl
theorem rE9 (ρ:List Addr) (s:LS) (aE:List Value) (aF:Bool) (nm:Str) (ps:List Value) (sa:List Addr) (er:Err) (fa:Addr) (cdv:Value) (k:Nat) (h1:ps.length<=3):
  cX (lf ρ 27 [] tN7) (E0.S (b4 fa cdv (k+60)) (tP s aE nm ps sa) (fS aF (.obj 25) ps.length er.word (.str er.word)) [tS 7])=.ret (some ⟨.cont,tP s aE nm ps sa,[],tV7.map some⟩):=by
 refine e3 ps h1 ?_ ?_ ?_ ?_<;>intros<;>cases er<;>kernel_rfl
section
variable {w:World}
theorem JQ {ih:Ih} (I:IhOk w rw1.prog ih)
  (C:Fx w fn A outer aZ base aY L p loose aC mg mb) (ac:fn.cs=none) {b:List Stmt} (PE:PassesOwn (model rw1.prog w) A (fn.env L) E)
  (n:Now w G aY L loc st mm X aA s.heap) (ae:(adr X).Nodup) {gs:List Gr} (H:Hd w X gs) (hk:k<=st.length) {ns:List Str} {st1:List SO} (hc:vs.all (eW k)=true)
  (run:∀ρ,cX (lf ρ k [] ns) (ih.S fn st loc b)=.ret (some ⟨.cont,st1,[],vs.map some⟩))
  (kk:∀ρ aS aV aB h' aU,Ext (adr aA) ρ->adr aB=(List.range k).map (λi=>ρ.getD i 0)->Now w G aY L (fD ρ k ns vs) (st1.map (cO ρ (List.range k))) aV aS aB h'->(adr aS).Nodup->Hd w aS gs->Q .cont {s with heap:=h',toks:=aU}):
  wpAny (model rw1.prog w) A (execs b (fn.env L)) Q E s:=by
 refine I.S fn st loc b C ac (gG (f:=λρ=>lf ρ k [] ns) (P:=λρ z=>z=some (⟨.cont,st1,[],vs.map some⟩:Lf)) [] λρ=>by rw[run ρ];exact rfl) PE n λf aT loc' fl aV aB h' aU hlf x n' hf=>?_
 have h1:=hlf (adr aB)
 unfold lf at h1
 refine jM h1 ?_;clear h1;intro ok h1
 simp only[bG] at ok
 injection h1 with h1
 injection h1 with e1 e2 e3 e4
 simp only at e1
 subst e1
 cases hf
 have hk':k<=aT.length:=by
  rcases Nat.eq_zero_or_pos k with z|z
  ·rw[z];exact Nat.zero_le _
  ·have h2:=ok.1
   unfold dC at h2
   simp only[bG] at h2
   have:=iV h2.1.1.1 (k-1) (List.mem_range.mpr (by omega))
   omega
 refine HZ (d7 n' ae ok.1 ok.2 H) λaS n2 nd2 sub H2 ea _=>?_
 rw[selSt_take hk'] at n2
 simp only at e2 e3 e4
 rw[e2] at n2
 exact kk (adr aB) aS aV _ h' aU x ea (n2.reloc λz v hz=>o8 e4 hc hz) nd2 (by simpa using H2)
theorem GU {fa:Addr} {cdv:Value}
  (C:Fx w (b4 fa cdv (k+60)) A outer aZ base aY L p loose aC mg mb) {s0:Shared} {s:LS} {aE:List Value} {aF:Bool} {nm:Str} {ps:List Value} {b:Array UInt8} {hs:List Value} {sa da:List Addr} {rest:List Gr} (PE:PassesOwn (model rw1.prog w) A ((b4 fa cdv (k+60)).env L) E)
  (am:ps.length<=3) (hb:b.size=0)
  (n:Now w G aY L (fS aF (.lit (.ref (sa.getD 2 0))) ps.length "" (.lit (cS da))) (cH s aE) mm X aA s0.heap) (ae:(adr X).Nodup) (H:Hd w X (oP nm ps b hs sa da++rest))
  (kk:∀aV aS aB h' aU,adr aB=adr aA->Now w G aY L (nX (.lit (cS da))) (cH s aE) aV aS aB h'->(adr aS).Nodup->Hd w aS (rest++oP nm ps b hs sa da)->Q .next {s0 with heap:=h',toks:=aU}):
  wpAny (model rw1.prog w) A (execs [tS 7,tS 8,tS 9] ((b4 fa cdv (k+60)).env L)) Q E s0:=by
 have hl:(adr aA).length=23:=by simp only[adr,bF];exact n.R.len
 have hL:=C.c0 rfl
 obtain rfl:b=#[]:=Array.eq_empty_of_size_eq_zero hb
 refine OV (Hd.focusL (oP nm ps #[] hs sa da) H n hL ae) λxs1 aI n1 nd1 H1 e1 l1=>?_
 have e1:adr aI=adr aA++(sa++da):=by
  rw[e1]
  unfold oP
  simp
 have hsa:sa.length=4:=l1 (cG nm ps,sa) (.head _)
 have hda:da.length=3:=l1 (jV #[] [] hs,da) (.tail _ (.head _))
 have n1:Now w G aY L (fS aF (.lit (.ref (sa.getD 2 0))) ps.length "" (.lit (cS da))) (K4 s aE nm ps #[] hs sa da) mm xs1 aI s0.heap:=n1
 have facts:∀ρ:List Addr,ρ=adr aA++(sa++da)->ρ.getD 25 0=sa.getD 2 0/\ρ.getD 27 0=da.getD 0 0:=by
  intro ρ hρ
  refine⟨?_,?_⟩
  ·rw[hρ,show(25:Nat)=23+2 from rfl,d6 hl,bC,bU (by omega),<-bC]
  ·rw[hρ,show(27:Nat)=23+(4+0) from rfl,d6 hl,d6 hsa]
 have hl1:(adr aI).length=30:=by rw[e1];simp[hsa,hda,hl]
 have at_:∀i,i<30->(adr aI)[i]? =some ((adr aI).getD i 0):=λi hi=>by
  rw[bC,bR (by omega)]
  rfl
 obtain⟨f25,f27⟩:=facts _ e1
 have n2:=iD n1 (x:="pieces") (a:=sa.getD 2 0) (i:=25) rfl (by rw[at_ 25 (by omega),f25])
 replace n2:=iD n2 (x:="due") (a:=da.getD 0 0) (i:=27) rfl (by rw[at_ 27 (by omega),f27])
 have n2:Now w G aY L (fS aF (.obj 25) ps.length "" (.obj 27)) (K4 s aE nm ps #[] hs sa da) mm xs1 aI s0.heap:=n2
 refine eT (ih:=E0) (I0 w) C rfl (s:=s0) (loc:=fS aF (.obj 25) ps.length "" (.obj 27)) (st:=K4 s aE nm ps #[] hs sa da) (b:=[tS 7,tS 8,tS 9]) PE n2 nd1 H1 (k:=30) (pis:=[]) (ns:=tN6) (st1:=K4 s aE nm ps #[] hs sa da) (gs1:=[]) (vs:=K5 (.obj 27)) (by show 30<=30;omega) (by rfl) (λρ=>.ret (rN9 ρ s aE aF nm ps hs sa da fa cdv k am)) λρ xs4 mm4 aL h4 tk4 x4 ea4 n4 nd4 H4=>?_
 have H4:Hd w xs4 rest:=by simpa using H4
 have e4:adr aL=adr aA++(sa++da):=by
  rw[ea4,take_getD x4 (by omega),<-hl1,bj,e1]
 rw[NC,gY (by rfl)] at n4
 obtain⟨_,f27'⟩:=facts _ e4
 obtain⟨xs6,aN,n6,nd6,H6,e6⟩:=rQ (st0:=cH s aE) (k:=23) (ps:=oP nm ps #[] hs sa da) n4 (by rfl) nd4 H4 (aCg s aE nm ps #[] hs sa da) (by rfl) l1 (by unfold oP;rw[bh,bh,jI,oX];rfl) (r:=adr aA) (by
  rw[e4]
  unfold oP
  simp) hl (λρ=>eE s aE ρ)
 refine kk mm4 xs6 aN h4 tk4 e6 ?_ nd6 H6
 have h1:fJ (adr aL) (List.range 23) (tN6.zip (K5 (.obj 27)))=([("width",.cell 0),("collector",.cell 1),("cells",.cell 2),("told",cD (adr aL) (List.range 23) (.obj 20)),("known",cD (adr aL) (List.range 23) (.obj 21)),("due",cD (adr aL) (List.range 23) (.obj 27))]:Loc):=rfl
 rw[h1,b0 (by omega),b0 (by omega),cJ (by omega),f27'] at n6
 exact n6
theorem L6 {fa:Addr} {cdv:Value}
  (C:Fx w (b4 fa cdv (k+60)) A outer aZ base aY L p loose aC mg mb) {s0:Shared} {s:LS} {aE:List Value} {aF:Bool} {nm:Str} {ps:List Value} {er:Err} {sa:List Addr} {rest:List Gr} (PE:PassesOwn (model rw1.prog w) A ((b4 fa cdv (k+60)).env L) E)
  (am:ps.length<=3)
  (n:Now w G aY L (fS aF (.lit (.ref (sa.getD 2 0))) ps.length er.word (.str er.word)) (cH s aE) mm X aA s0.heap) (ae:(adr X).Nodup) (H:Hd w X ((cG nm ps,sa)::rest))
  (kk:∀aV aS aB h' aU,adr aB=adr aA->Now w G aY L (dA []) (cH s aE) aV aS aB h'->(adr aS).Nodup->Hd w aS (rest++[(cG nm ps,sa)])->Q .cont {s0 with heap:=h',toks:=aU}):
  wpAny (model rw1.prog w) A (execs [tS 7] ((b4 fa cdv (k+60)).env L)) Q E s0:=by
 have hl:(adr aA).length=23:=by simp only[adr,bF];exact n.R.len
 have hL:=C.c0 rfl
 refine OV (Hd.focusL [(cG nm ps,sa)] H n hL ae) λxs1 aI n1 nd1 H1 e1 l1=>?_
 have e1:adr aI=adr aA++sa:=by
  rw[e1]
  simp
 have hsa:sa.length=4:=l1 (cG nm ps,sa) (.head _)
 have n1:Now w G aY L (fS aF (.lit (.ref (sa.getD 2 0))) ps.length er.word (.str er.word)) (tP s aE nm ps sa) mm xs1 aI s0.heap:=n1
 have hl1:(adr aI).length=27:=by rw[e1];simp[hsa,hl]
 have f25:(adr aI)[25]? =some (sa.getD 2 0):=by
  rw[e1,bV (by omega),hl,bC,bR (by omega:2<sa.length)]
  simp[bR (by omega:2<sa.length)]
 have n2:=iD n1 (x:="pieces") (a:=sa.getD 2 0) (i:=25) rfl f25
 have n2:Now w G aY L (fS aF (.obj 25) ps.length er.word (.str er.word)) (tP s aE nm ps sa) mm xs1 aI s0.heap:=n2
 refine JQ (ih:=E0) (I0 w) C rfl (s:=s0) (loc:=fS aF (.obj 25) ps.length er.word (.str er.word)) (st:=tP s aE nm ps sa) (b:=[tS 7]) PE n2 nd1 H1 (k:=27) (ns:=tN7) (st1:=tP s aE nm ps sa) (vs:=tV7) (by show 27<=27;omega) (by rfl) (λρ=>rE9 ρ s aE aF nm ps sa er fa cdv k am) λρ xs4 mm4 aL h4 tk4 x4 ea4 n4 nd4 H4=>?_
 have e4:adr aL=adr aA++sa:=by
  rw[ea4,take_getD x4 (by omega),<-hl1,bj,e1]
 rw[KC,gY (by rfl)] at n4
 obtain⟨xs6,aN,n6,nd6,H6,e6⟩:=rQ (st0:=cH s aE) (k:=23) (ps:=[(cG nm ps,sa)]) n4 (by rfl) nd4 H4 (tLK s aE nm ps sa) (by rfl) l1 (by rw[bh,jI];rfl) (r:=adr aA) (by
  rw[e4]
  simp) hl (λρ=>eE s aE ρ)
 refine kk mm4 xs6 aN h4 tk4 e6 ?_ nd6 H6
 have h1:fJ (adr aL) (List.range 23) (tN7.zip tV7)=([("width",.cell 0),("collector",.cell 1),("cells",.cell 2),("told",cD (adr aL) (List.range 23) (.obj 20)),("known",cD (adr aL) (List.range 23) (.obj 21))]:Loc):=rfl
 rw[h1,b0 (by omega),b0 (by omega)] at n6
 exact n6
end
noncomputable def Sh.n2:Sh->Nat
 | .n=>0
 | .f _=>1
 | .r _=>1
 | .fr _ _=>2
 | .rf _ _=>2
noncomputable def Sh.srtO:Sh->List SV
 | .n=>[]
 | .f _=>[.obj 26]
 | .r _=>[.obj 26]
 | .fr _ _=>[.obj 26,.obj 28]
 | .rf _ _=>[.obj 28,.obj 26]
def Sh.lstO (B:Nat):Sh->List (Str×SV)
 | .n=>[]
 | .f _=>[(kI,.obj B)]
 | .r _=>[(kJ,.obj B)]
 | .fr _ _=>[(kI,.obj B),(kJ,.obj (B+2))]
 | .rf _ _=>[(kJ,.obj B),(kI,.obj (B+2))]
def Sh.names:Sh->List Str
 | .n=>[]
 | .f _=>[kI]
 | .r _=>[kJ]
 | .fr _ _=>[kI,kJ]
 | .rf _ _=>[kI,kJ]
def k8 (b:Array UInt8) (ffs:List Value) (sh e:Sh) (da:List Addr):List Gr:=(jV b ffs sh.srt,da)::(sh.hgs++e.grs)
def xV (s:LS) (aE:List Value) (b:Array UInt8) (ffs:List Value) (sh e:Sh) (da:List Addr):List SO:=cH {s with eqs:=e} aE++dU 23 (k8 b ffs sh e da)
def vP (s:LS) (aE:List Value) (b:Array UInt8) (ffs:List Value) (sh e:Sh) (da:List Addr):List SO:=((xV s aE b ffs sh e da).set 25 (.list sh.srtO)).set 10 (.ud (eq3++e.lstO (26+2*sh.n2)))
def j4 (s:LS) (aE:List Value) (b:Array UInt8) (ffs:List Value) (sh e:Sh) (da:List Addr):List SO:=(vP s aE b ffs sh e da).set 20 (.listB (100+sh.names.length) (s.told.map .str++sh.names.map .str))
def aCP (ρ:List Addr) (s:LS) (aE:List Value) (b:Array UInt8) (ffs:List Value) (sh e:Sh) (da:List Addr) (fa:Addr) (cdv:Value) (k:Nat):Tr (Option Lf):=cX (lf ρ (26+2*sh.n2+2*e.n2) [] tN7) (E0.S (b4 fa cdv (k+60)) (vP s aE b ffs sh e da) (nX (.obj 23)) [tS 10,tS 11])
theorem rT (ρ:List Addr) (s:LS) (aE:List Value) (bb:Array UInt8) (ffs:List Value) (da:List Addr) (fa:Addr) (cdv:Value) (k:Nat):∀(sh e:Sh),(sh.hasF=true->e.hasF=true)->(sh.hasR=true->e.hasR=true)->
  aCP ρ s aE bb ffs sh e da fa cdv k=.ret (some ⟨.next,j4 s aE bb ffs sh e da,[],tV7.map some⟩)
 | .n,.n,_,_=>by kernel_rfl
 | .n,.f a2,_,_=>by kernel_rfl
 | .n,.r b2,_,_=>by kernel_rfl
 | .n,.fr a2 b2,_,_=>by kernel_rfl
 | .n,.rf b2 a2,_,_=>by kernel_rfl
 | .f a,.n,h,_=>by cases h rfl
 | .f a,.f a2,_,_=>by kernel_rfl
 | .f a,.r b2,h,_=>by cases h rfl
 | .f a,.fr a2 b2,_,_=>by kernel_rfl
 | .f a,.rf b2 a2,_,_=>by kernel_rfl
 | .r b,.n,_,h=>by cases h rfl
 | .r b,.f a2,_,h=>by cases h rfl
 | .r b,.r b2,_,_=>by kernel_rfl
 | .r b,.fr a2 b2,_,_=>by kernel_rfl
 | .r b,.rf b2 a2,_,_=>by kernel_rfl
 | .fr a b,.n,h,_=>by cases h rfl
 | .fr a b,.f a2,_,h=>by cases h rfl
 | .fr a b,.r b2,h,_=>by cases h rfl
 | .fr a b,.fr a2 b2,_,_=>by kernel_rfl
 | .fr a b,.rf b2 a2,_,_=>by kernel_rfl
 | .rf b a,.n,h,_=>by cases h rfl
 | .rf b a,.f a2,_,h=>by cases h rfl
 | .rf b a,.r b2,h,_=>by cases h rfl
 | .rf b a,.fr a2 b2,_,_=>by kernel_rfl
 | .rf b a,.rf b2 a2,_,_=>by kernel_rfl
theorem aCi (s:LS) (aE:List Value) (bb:Array UInt8) (ffs:List Value) (da:List Addr):∀(sh e:Sh),dC (xV s aE bb ffs sh e da) 23 (OU 23 (k8 bb ffs sh e da))=true
 | .n,.n=>by kernel_rfl
 | .n,.f a2=>by kernel_rfl
 | .n,.r b2=>by kernel_rfl
 | .n,.fr a2 b2=>by kernel_rfl
 | .n,.rf b2 a2=>by kernel_rfl
 | .f a,.n=>by kernel_rfl
 | .f a,.f a2=>by kernel_rfl
 | .f a,.r b2=>by kernel_rfl
 | .f a,.fr a2 b2=>by kernel_rfl
 | .f a,.rf b2 a2=>by kernel_rfl
 | .r b,.n=>by kernel_rfl
 | .r b,.f a2=>by kernel_rfl
 | .r b,.r b2=>by kernel_rfl
 | .r b,.fr a2 b2=>by kernel_rfl
 | .r b,.rf b2 a2=>by kernel_rfl
 | .fr a b,.n=>by kernel_rfl
 | .fr a b,.f a2=>by kernel_rfl
 | .fr a b,.r b2=>by kernel_rfl
 | .fr a b,.fr a2 b2=>by kernel_rfl
 | .fr a b,.rf b2 a2=>by kernel_rfl
 | .rf b a,.n=>by kernel_rfl
 | .rf b a,.f a2=>by kernel_rfl
 | .rf b a,.r b2=>by kernel_rfl
 | .rf b a,.fr a2 b2=>by kernel_rfl
 | .rf b a,.rf b2 a2=>by kernel_rfl
theorem QN:∀sh:Sh,(sh.hgs.all λp=>p.1.all (lD p.1.length))=true
 | .n=>rfl
 | .f a=>by kernel_rfl
 | .r b=>by kernel_rfl
 | .fr a b=>by kernel_rfl
 | .rf b a=>by kernel_rfl
theorem QK:∀sh:Sh,(sh.grs.all λp=>p.1.all (lD p.1.length))=true
 | .n=>rfl
 | .f a=>by kernel_rfl
 | .r b=>by kernel_rfl
 | .fr a b=>by kernel_rfl
 | .rf b a=>by kernel_rfl
theorem yT (b:Array UInt8) (ffs:List Value) (sh e:Sh) (da:List Addr):((k8 b ffs sh e da).all λp=>p.1.all (lD p.1.length))=true:=by
 unfold k8
 rw[bh,List.all_append,oX,QN,QK]
 rfl
theorem yV:∀sh:Sh,(sh.hgs.flatMap (·.1)).length=2*sh.n2
 | .n=>rfl
 | .f a=>rfl
 | .r b=>rfl
 | .fr a b=>rfl
 | .rf b a=>rfl
theorem LT:∀sh:Sh,(sh.grs.flatMap (·.1)).length=2*sh.n2
 | .n=>rfl
 | .f a=>rfl
 | .r b=>rfl
 | .fr a b=>rfl
 | .rf b a=>rfl
theorem uM (b:Array UInt8) (ffs:List Value) (sh e:Sh) (da:List Addr):((k8 b ffs sh e da).flatMap (·.1)).length=3+(2*sh.n2+2*e.n2):=by
 unfold k8
 rw[ba,bi,bI,bI,yV,LT]
 rfl
theorem fG {r a tl:List Addr} {n:Nat} (h:r.length=n) (ha:0<a.length):(r++(a++tl)).getD n 0=a.getD 0 0:=by
 have:=d6 (l:=r) (m:=a++tl) (i:=0) h
 rw[Nat.add_zero] at this
 rw[this,bC,bU ha,<-bC]
theorem TT {r tl:List Addr} (h:r.length=26):∀(sh:Sh),(∀p∈sh.hgs,p.2.length=2)->sh.srtO.map (lL (r++(sh.hgs.flatMap (·.2)++tl)))=(sh.srt.map SV.lit).map (lL (r++(sh.hgs.flatMap (·.2)++tl)))
 | .n,_=>rfl
 | .f a,hl=>by
  have ha:a.length=2:=hl (hF,a) (.head _)
  rw[i7]
  show [SV.lit (.ref ((r++((a++[])++tl)).getD 26 0))]=[SV.lit (cS a)]
  rw[bQ,fG h (by omega)]
  rfl
 | .r b,hl=>by
  have hb:b.length=2:=hl (hR,b) (.head _)
  rw[i7]
  show [SV.lit (.ref ((r++((b++[])++tl)).getD 26 0))]=[SV.lit (cS b)]
  rw[bQ,fG h (by omega)]
  rfl
 | .fr a b,hl=>by
  have ha:a.length=2:=hl (hF,a) (.head _)
  have hb:b.length=2:=hl (hR,b) (.tail _ (.head _))
  rw[i7]
  show [SV.lit (.ref ((r++((a++(b++[]))++tl)).getD 26 0)),SV.lit (.ref ((r++((a++(b++[]))++tl)).getD 28 0))]=[SV.lit (cS a),SV.lit (cS b)]
  rw[bQ,bB,fG h (by omega),show r++(a++(b++tl))=(r++a)++(b++tl) from by simp,fG (n:=28) (by rw[bI,h,ha]) (by omega)]
  rfl
 | .rf b a,hl=>by
  have hb:b.length=2:=hl (hR,b) (.head _)
  have ha:a.length=2:=hl (hF,a) (.tail _ (.head _))
  rw[i7]
  show [SV.lit (.ref ((r++((b++(a++[]))++tl)).getD 28 0)),SV.lit (.ref ((r++((b++(a++[]))++tl)).getD 26 0))]=[SV.lit (cS a),SV.lit (cS b)]
  rw[bQ,bB,fG h (by omega),show r++(b++(a++tl))=(r++b)++(a++tl) from by simp,fG (n:=28) (by rw[bI,h,hb]) (by omega)]
  rfl
theorem QU {r tl:List Addr} {B:Nat} (h:r.length=B):∀(e:Sh),(∀p∈e.grs,p.2.length=2)->uU (r++(e.grs.flatMap (·.2)++tl)) (e.lstO B)=uU (r++(e.grs.flatMap (·.2)++tl)) (fC e.lst)
 | .n,_=>rfl
 | .f a,hl=>by
  have ha:a.length=2:=hl (eI 0 cV cC,a) (.head _)
  show [(kI,SV.lit (.ref ((r++((a++[])++tl)).getD B 0)))]=[(kI,SV.lit (cS a))]
  rw[bQ,fG h (by omega)]
  rfl
 | .r b,hl=>by
  have hb:b.length=2:=hl (eI 0 cC cV,b) (.head _)
  show [(kJ,SV.lit (.ref ((r++((b++[])++tl)).getD B 0)))]=[(kJ,SV.lit (cS b))]
  rw[bQ,fG h (by omega)]
  rfl
 | .fr a b,hl=>by
  have ha:a.length=2:=hl (eI 0 cV cC,a) (.head _)
  have hb:b.length=2:=hl (eI 0 cC cV,b) (.tail _ (.head _))
  show [(kI,SV.lit (.ref ((r++((a++(b++[]))++tl)).getD B 0))),(kJ,SV.lit (.ref ((r++((a++(b++[]))++tl)).getD (B+2) 0)))]=[(kI,SV.lit (cS a)),(kJ,SV.lit (cS b))]
  rw[bQ,bB,fG h (by omega),show r++(a++(b++tl))=(r++a)++(b++tl) from by simp,fG (n:=B+2) (by rw[bI,h,ha]) (by omega)]
  rfl
 | .rf b a,hl=>by
  have hb:b.length=2:=hl (eI 0 cC cV,b) (.head _)
  have ha:a.length=2:=hl (eI 0 cV cC,a) (.tail _ (.head _))
  show [(kJ,SV.lit (.ref ((r++((b++(a++[]))++tl)).getD B 0))),(kI,SV.lit (.ref ((r++((b++(a++[]))++tl)).getD (B+2) 0)))]=[(kJ,SV.lit (cS b)),(kI,SV.lit (cS a))]
  rw[bQ,bB,fG h (by omega),show r++(b++(a++tl))=(r++b)++(a++tl) from by simp,fG (n:=B+2) (by rw[bI,h,hb]) (by omega)]
  rfl
theorem mI {i:Nat} (h:i<k):gK k (.obj i)=true:=Nat.ble_eq_true_of_le h
theorem z8:∀(sh:Sh),26+2*sh.n2<=k->sh.srtO.all (gK k)=true
 | .n,_=>rfl
 | .f a,h=>gT (k:=28) h rfl
 | .r b,h=>gT (k:=28) h rfl
 | .fr a b,h=>gT (k:=30) h rfl
 | .rf b a,h=>gT (k:=30) h rfl
theorem MC {B:Nat}:∀(e:Sh),B+2*e.n2<=k->((e.lstO B).all λp=>gK k p.2)=true
 | .n,_=>rfl
 | .f a,h=>by
  have h:B+2<=k:=h
  show(gK k (.obj B)&&true)=true
  rw[mI (by omega)];rfl
 | .r a,h=>by
  have h:B+2<=k:=h
  show(gK k (.obj B)&&true)=true
  rw[mI (by omega)];rfl
 | .fr a b,h=>by
  have h:B+4<=k:=h
  show(gK k (.obj B)&&(gK k (.obj (B+2))&&true))=true
  rw[mI (by omega),mI (by omega)];rfl
 | .rf a b,h=>by
  have h:B+4<=k:=h
  show(gK k (.obj B)&&(gK k (.obj (B+2))&&true))=true
  rw[mI (by omega),mI (by omega)];rfl
theorem FQ (h:19<=k):(eq3.all λp=>gK k p.2)=true:=by
 show(gK k (.obj 14)&&(gK k (.obj 16)&&(gK k (.obj 18)&&true)))=true
 rw[mI (by omega),mI (by omega),mI (by omega)];rfl
theorem MA (l:List (Str×Value)):((fC l).all λp=>gK k p.2)=true:=by
 unfold fC
 rw[List.all_map,bO]
 exact λ_ _=>rfl
theorem AA (l:List Str):(l.map SV.str).all (gK k)=true:=by
 rw[List.all_map,bO]
 exact λ_ _=>rfl
theorem O3 {B:Nat} (h:19<=k) (e:Sh) (hB:B+2*e.n2<=k):((eq3++e.lstO B).all λp=>gK k p.2)=true:=by
 rw[List.all_append,FQ h,MC e hB];rfl
theorem T6 (h:19<=k) (e:Sh):DT k (.ud (eq3++fC e.lst))=true:=by
 show((eq3++fC e.lst).all λp=>gK k p.2)=true
 rw[List.all_append,FQ h,MA];rfl
theorem z9 (s:LS) (aE:List Value) (b:Array UInt8) (ffs:List Value) (sh e:Sh) (da:List Addr):(xV s aE b ffs sh e da).length=26+2*sh.n2+2*e.n2:=by
 unfold xV
 rw[bI,mT,uM]
 show 23+_=_
 omega
theorem yA (ρ:List Addr) (s:LS) (aE:List Value) (b:Array UInt8) (ffs:List Value) (sh e:Sh) (da:List Addr):(j4 s aE b ffs sh e da).map (cO ρ (List.range (26+2*sh.n2+2*e.n2)))=j4 s aE b ffs sh e da:=by
 have f1:=iO {s with eqs:=e} aE ρ (k:=26+2*sh.n2+2*e.n2) (by omega)
 have f2:=iN (ρ:=ρ) (k:=26+2*sh.n2+2*e.n2) (n:=23) (k8 b ffs sh e da) (yT b ffs sh e da) (by rw[uM];omega)
 have f3:cO ρ (List.range (26+2*sh.n2+2*e.n2)) (SO.list sh.srtO)=SO.list sh.srtO:=iE (z8 sh (by omega))
 have f4:cO ρ (List.range (26+2*sh.n2+2*e.n2)) (SO.ud (eq3++e.lstO (26+2*sh.n2)))=SO.ud (eq3++e.lstO (26+2*sh.n2)):=iE (O3 (by omega) e (by omega))
 have f5:cO ρ (List.range (26+2*sh.n2+2*e.n2)) (SO.listB (100+sh.names.length) (s.told.map SV.str++sh.names.map SV.str))=SO.listB (100+sh.names.length) (s.told.map SV.str++sh.names.map SV.str):=iE (by
  show((s.told.map SV.str++sh.names.map SV.str).all (gK _))=true
  rw[List.all_append,AA,AA];rfl)
 delta j4 vP xV
 rw[List.map_set,List.map_set,List.map_set,bH,f1,f2,f3,f4,f5]
theorem rX (sh:Sh):sh.names.length<=2:=by cases sh<;>exact bA rfl
section
variable {w:World}
theorem GW {fa:Addr} {cdv:Value}
  (C:Fx w (b4 fa cdv (k+60)) A outer aZ base aY L p loose aC mg mb) {s0:Shared} {s:LS} {aE:List Value} {b:Array UInt8} {ffs:List Value} {sh e:Sh} {da:List Addr} {rest:List Gr} (PE:PassesOwn (model rw1.prog w) A ((b4 fa cdv (k+60)).env L) E)
  (hF:sh.hasF=true->e.hasF=true) (hR:sh.hasR=true->e.hasR=true) (ht:s.told.length+2<=100)
  (n:Now w G aY L (nX (.lit (cS da))) (cH {s with eqs:=e} aE) mm X aA s0.heap) (ae:(adr X).Nodup) (H:Hd w X (k8 b ffs sh e da++rest))
  (kk:∀aV aS aB h' aU,adr aB=adr aA->Now w G aY L (dA []) (cH {s with eqs:=e,told:=s.told++sh.names} aE) aV aS aB h'->(adr aS).Nodup->Hd w aS (rest++k8 b ffs sh e da)->Q .next {s0 with heap:=h',toks:=aU}):
  wpAny (model rw1.prog w) A (execs [tS 10,tS 11] ((b4 fa cdv (k+60)).env L)) Q E s0:=by
 have hl:(adr aA).length=23:=by simp only[adr,bF];exact n.R.len
 have hL:=C.c0 rfl
 refine OV (Hd.focusL (k8 b ffs sh e da) H n hL ae) λxs1 aI n1 nd1 H1 e1 l1=>?_
 have efl:(k8 b ffs sh e da).flatMap (·.2)=da++(sh.hgs.flatMap (·.2)++e.grs.flatMap (·.2)):=by
  unfold k8
  rw[ba,bi]
 rw[efl] at e1
 have hda:da.length=3:=l1 (jV b ffs sh.srt,da) (.head _)
 have h2:∀sh:Sh,∀q∈sh.hgs,q.1.length=2:=by
  intro sh q hq
  cases sh<;>simp only[Sh.hgs,bX,List.not_mem_nil,or_false] at hq<;>first|(subst hq;rfl)|(rcases hq with rfl|rfl<;>rfl)
 have h3:∀sh:Sh,∀q∈sh.grs,q.1.length=2:=by
  intro sh q hq
  cases sh<;>simp only[Sh.grs,bX,List.not_mem_nil,or_false] at hq<;>first|(subst hq;rfl)|(rcases hq with rfl|rfl<;>rfl)
 have hha:∀q∈sh.hgs,q.2.length=2:=λq hq=>(l1 q (.tail _ (bK _ hq))).trans (h2 sh q hq)
 have hea:∀q∈e.grs,q.2.length=2:=λq hq=>(l1 q (.tail _ (ay _ hq))).trans (h3 e q hq)
 have n1:Now w G aY L (nX (.lit (cS da))) (xV s aE b ffs sh e da) mm xs1 aI s0.heap:=n1
 have hN:=z9 s aE b ffs sh e da
 have hl1:(adr aI).length=26+2*sh.n2+2*e.n2:=by simp only[adr,bF];rw[n1.R.len,hN]
 have l26:(adr aA++da).length=26:=by rw[bI,hl,hda]
 have hhl:(sh.hgs.flatMap (·.2)).length=2*sh.n2:=by
  have:∀l:List Gr,(∀q∈l,q.2.length=2)->(∀q∈l,q.1.length=2)->(l.flatMap (·.2)).length=(l.flatMap (·.1)).length:=by
   intro l
   induction l with
   |nil=>intro _ _;rfl
   |cons q l ih=>intro a b;rw[ba,ba,bI,bI,a q (.head _),b q (.head _),ih (λz hz=>a z (.tail _ hz)) λz hz=>b z (.tail _ hz)]
  rw[this _ hha (h2 sh),yV]
 have facts:∀ρ:List Addr,ρ=adr aA++(da++(sh.hgs.flatMap (·.2)++e.grs.flatMap (·.2)))->(sh.srtO.map (lL ρ)=(sh.srt.map SV.lit).map (lL ρ))/\uU ρ (e.lstO (26+2*sh.n2))=uU ρ (fC e.lst):=by
  intro ρ hρ
  refine⟨?_,?_⟩
  ·rw[hρ,<-bB]
   exact TT l26 sh hha
  ·have q:=QU (r:=(adr aA++da)++sh.hgs.flatMap (·.2)) (tl:=[]) (B:=26+2*sh.n2) (by rw[bI,l26,hhl]) e hea
   rw[bQ,bB,bB,<-hρ] at q
   exact q
 obtain⟨g25,g10⟩:=facts _ e1
 have g10':∀ρ,uU ρ (e.lstO (26+2*sh.n2))=uU ρ (fC e.lst)->uU ρ (eq3++e.lstO (26+2*sh.n2))=uU ρ (eq3++fC e.lst):=λρ h=>by
  unfold uU at h ⊢
  rw[bH,bH,h]
 have i25:(xV s aE b ffs sh e da)[25]? =some (.list (sh.srt.map .lit)):=by
  rw[show(xV s aE b ffs sh e da)[25]? =some (.list ((sh.srt.map .lit).map (qX 23))) from rfl,hX]
 have i10:((xV s aE b ffs sh e da).set 25 (.list sh.srtO))[10]? =some (.ud (eq3++fC e.lst)):=rfl
 have ok25:DT (xV s aE b ffs sh e da).length (.list sh.srtO)=true:=by rw[hN];exact z8 sh (by omega)
 have ok10:DT ((xV s aE b ffs sh e da).set 25 (.list sh.srtO)).length (.ud (eq3++e.lstO (26+2*sh.n2)))=true:=by rw[bq,hN];exact O3 (by omega) e (by omega)
 have n2:=iD n1 (x:="due") (a:=da.getD 0 0) (i:=23) rfl (by
  rw[e1,bV (by omega),hl,bU (by omega),bC,bR (by omega:0<da.length)]
  rfl)
 have n3:=n2.relit (i:=25) (.list sh.srtO) i25 ok25 (congrArg SO.list g25)
 have n4:=n3.relit (i:=10) (.ud (eq3++e.lstO (26+2*sh.n2))) i10 ok10 (congrArg SO.ud (g10' _ g10))
 have n4:Now w G aY L (nX (.obj 23)) (vP s aE b ffs sh e da) mm xs1 aI s0.heap:=n4
 have hlen:(vP s aE b ffs sh e da).length=26+2*sh.n2+2*e.n2:=by
  unfold vP
  rw[bq,bq,hN]
 have hfv:tV7.all (uI (26+2*sh.n2+2*e.n2))=true:=by
  rw[bO]
  intro v hv
  exact rN (k:=26) (by omega) (bO.mp (show tV7.all (uI 26)=true from rfl) v hv)
 have LX:tV7.all (eW (26+2*sh.n2+2*e.n2))=true:=by
  rw[bO]
  intro v hv
  simp only[tV7,bX,List.not_mem_nil,or_false] at hv
  rcases hv with rfl|rfl|rfl|rfl|rfl<;>first|rfl|exact Nat.ble_eq_true_of_le (by omega)
 refine eT (ih:=E0) (I0 w) C rfl (s:=s0) (loc:=nX (.obj 23)) (st:=vP s aE b ffs sh e da) (b:=[tS 10,tS 11]) PE n4 nd1 H1 (k:=26+2*sh.n2+2*e.n2) (pis:=[]) (ns:=tN7) (st1:=j4 s aE b ffs sh e da) (gs1:=[]) (vs:=tV7) (by rw[hlen];exact Nat.le_refl _) LX (λρ=>.ret (rT ρ s aE b ffs da fa cdv k sh e hF hR)) λρ xs5 mm5 aM h5 tk5 x5 ea5 n5 nd5 H5=>?_
 have H5:Hd w xs5 rest:=by simpa using H5
 have e5:adr aM=adr aA++(da++(sh.hgs.flatMap (·.2)++e.grs.flatMap (·.2))):=by
  rw[ea5,take_getD x5 (by omega),<-hl1,bj,e1]
 rw[yA,gY hfv] at n5
 obtain⟨g25',g10''⟩:=facts _ e5
 have hnl:=rX sh
 have n6:=Now.weak n5 (i:=20) (so:=.listB (100+sh.names.length) (s.told.map .str++sh.names.map .str)) (so':=.listB 100 ((s.told++sh.names).map .str)) (by
  unfold j4
  rw[bc,if_pos rfl,if_pos (by rw[hlen];omega)]) (λρ a o h=>by
   rw[bH]
   refine⟨h.1,?_⟩
   rw[bI,bF,bF]
   omega)
 have eS:(j4 s aE b ffs sh e da).set 20 (.listB 100 ((s.told++sh.names).map .str))=((xV {s with told:=s.told++sh.names} aE b ffs sh e da).set 25 (.list sh.srtO)).set 10 (.ud (eq3++e.lstO (26+2*sh.n2))):=by
  delta j4 vP
  rw[List.set_set,List.set_comm _ _ (by decide:(10:Nat)≠20),List.set_comm _ _ (by decide:(25:Nat)≠20)]
  rfl
 rw[eS] at n6
 have i25':(xV {s with told:=s.told++sh.names} aE b ffs sh e da)[25]? =some (.list (sh.srt.map .lit)):=by
  rw[show(xV {s with told:=s.told++sh.names} aE b ffs sh e da)[25]? =some (.list ((sh.srt.map .lit).map (qX 23))) from rfl,hX]
 have i10':((xV {s with told:=s.told++sh.names} aE b ffs sh e da).set 25 (.list sh.srtO))[10]? =some (.ud (eq3++fC e.lst)):=rfl
 have lok:∀(k:Nat) (l:List Value),DT k (.list (l.map .lit))=true:=λk l=>f7 l
 have n7:=n6.unlit i10' (T6 (by rw[bq,z9];omega) e) (congrArg SO.ud (g10' _ g10''))
 have n8:=n7.unlit i25' (lok _ _) (congrArg SO.list g25')
 refine kS (rQ (st0:=cH {s with eqs:=e,told:=s.told++sh.names} aE) (k:=23) (ps:=k8 b ffs sh e da) n8 (by rfl) nd5 H5 (aCi {s with told:=s.told++sh.names} aE b ffs da sh e) (by rfl) l1 (yT _ _ _ _ _) (r:=adr aA) (by rw[e5,efl]) hl (λρ=>eE _ aE ρ)) λxs9 news9 n9 nd9 H9 e9=>?_
 refine kk mm5 xs9 news9 h5 tk5 e9 ?_ nd9 H9
 have h1:fJ (adr aM) (List.range 23) (tN7.zip tV7)=([("width",.cell 0),("collector",.cell 1),("cells",.cell 2),("told",cD (adr aM) (List.range 23) (.obj 20)),("known",cD (adr aM) (List.range 23) (.obj 21))]:Loc):=rfl
 rw[h1,b0 (by omega),b0 (by omega)] at n9
 exact n9
end
theorem KM:AB=[tS 0,tS 1,tS 2,tS 3,tS 4,tS 5,tS 6,tS 7,tS 8,tS 9,tS 10,tS 11]:=by kernel_rfl
def tZ (w:World) (t:Value) (oth:List Gr) (i:Nat) (st:List SO) (xs:dJ):Prop:=∃(s:LS) (sc:Sc) (P:Bool->List Value),st=(jO s t sc).sT/\Hd w xs (sc.grs P++(s.eqs.grs++oth))/\(∀b,(P b).length<=i)/\s.told.length<=2*i/\(∀x∈s.told,(x=kI/\s.eqs.hasF=true)\/(x=kJ/\s.eqs.hasR=true))
theorem aCd (s:LS) (aE:List Value):dC (cH s aE) 22 []=true:=by kernel_rfl
theorem C8 {wd:Wd} {aF:Bool} {l:List PS} {b b':Array UInt8} {fs ds:List Fld} (h1:iA wd aF l=.ok (b,fs)) (h2:iA wd aF l=.ok (b',ds)):b=b'/\fs=ds:=by
 rw[h1] at h2
 injection h2 with h2
 injection h2 with a c
 exact⟨a,c⟩
theorem C9 {wd:Wd} {aF:Bool} {l:List PS} {b:Array UInt8} {fs:List Fld} (h:iA wd aF l=.ok (b,fs)):b.size=wd.n*l.length/\fs.length<=l.length:=by
 unfold iA at h
 split at h
 ·rename_i x hx
  split at h
  ·first|exact b5 h|exact UE h
  ·first|exact b5 h|cases h
   obtain⟨a,c⟩:=iU hx
   rw[Array.size_empty,Nat.zero_add] at a
   rw[List.length_nil,Nat.zero_add] at c
   exact⟨a,c⟩
 ·first|exact b5 h|exact UE h
theorem Wd.n_pos (wd:Wd):0<wd.n:=by cases wd<;>decide
noncomputable def yB (P:Bool->List Value) (aF:Bool) (l:List Value):Bool->List Value:=λb=>if b=aF then l else P b
theorem DP (P:Bool->List Value) (aF:Bool) (l:List Value) (sc:Sc):sc.rest (yB P aF l) aF=sc.rest P aF:=Sc.rest_eq (by unfold yB;rw[if_neg (by cases aF<;>decide)]) sc
theorem pm0 {α:Type} (A C O R:List α) (s:α):(s::((A++(C++O))++R)).Perm (A++(C++(s::(R++O)))):=by
 classical
 rw[List.perm_iff_count]
 intro a
 simp only[List.count_append,List.count_cons]
 ac_rfl
theorem pm5 {α:Type} (C O R:List α) (s:α):((s::(R++O))++C).Perm ((s::R)++(C++O)):=by
 classical
 rw[List.perm_iff_count]
 intro a
 simp only[List.count_append,List.count_cons]
 ac_rfl
theorem pm1 {α:Type} (A B C R:List α) (s d:α):(A++(d::(B++(C++(s::R))))).Perm (B++(s::d::(A++(C++R)))):=by
 classical
 rw[List.perm_iff_count]
 intro a
 simp only[List.count_append,List.count_cons,List.count_nil,Nat.zero_add,Nat.add_zero]
 ac_rfl
theorem pm2 {α:Type} (A C R:List α) (s d:α):((A++(C++R))++[s,d]).Perm ((d::(A++C))++((s::R)++[])):=by
 classical
 rw[List.perm_iff_count]
 intro a
 simp only[List.count_append,List.count_cons,List.count_nil,Nat.zero_add,Nat.add_zero]
 ac_rfl
theorem pm3 {α:Type} (A B C D R:List α) (s d o:α):(D++(A++(d::(B++(C++([s,o]++R)))))).Perm ((s::d::o::(B++D))++(A++(C++R))):=by
 classical
 rw[List.perm_iff_count]
 intro a
 simp only[List.count_append,List.count_cons,List.count_nil,Nat.zero_add,Nat.add_zero]
 ac_rfl
theorem pm4 {α:Type} (A B C D R:List α) (s d o:α):((A++(C++R))++(s::d::o::(B++D))).Perm ((d::(A++C))++((s::R)++(o::(B++D)))):=by
 classical
 rw[List.perm_iff_count]
 intro a
 simp only[List.count_append,List.count_cons,List.count_nil,Nat.zero_add,Nat.add_zero]
 ac_rfl
section
variable {w:World}
theorem L7 (hL:L.c=none) {h:Heap} {s:LS} {aE:List Value} {gs:List Gr}
  (n:Now w G aY L (dA []) (cH s aE) mm X aA h) (ae:(adr X).Nodup) (H:Hd w X gs):∃aS aB,Now w G aY L (dA []) s.sT mm aS aB h/\(adr aS).Nodup/\Hd w aS gs/\adr aB=(adr aA).take 22:=by
 refine HZ (d7 n ae (aCd s aE) (by rfl) H) λaS n2 nd2 _ H2 e2 _=>?_
 refine⟨aS,eD aA (List.range 22),?_,nd2,by simpa using H2,?_⟩
 ·rw[selSt_take (by show 22<=23;omega)] at n2
  have n2:Now w G aY L (fJ (adr aA) (List.range 22) (dA [])) (s.sT.map (cO (adr aA) (List.range 22))) mm aS (eD aA (List.range 22)) h:=n2
  have hs:fJ (adr aA) (List.range 22) (dA [])=([("width",.cell 0),("collector",.cell 1),("cells",.cell 2),("told",cD (adr aA) (List.range 22) (.obj 20)),("known",cD (adr aA) (List.range 22) (.obj 21))]:Loc):=rfl
  rw[LS.sel s (by omega),hs,b0 (by omega),b0 (by omega)] at n2
  exact n2
 ·rw[e2]
  exact take_getD .rfl' (by simp only[adr,bF];rw[n.R.len];show 22<=23;omega)
theorem GX {fa:Addr} {cdv:Value}
  (C:Fx w (b4 fa cdv (k+60)) A [] aZ base aY L p loose aC mg mb) (XB:(K w.params).In base) (TB:Top p loose aC mg mb base) {s0:Shared} {t:Value} {oth:List Gr} {i:Nat} {v:SV} (PE:PassesOwn (model rw1.prog w) A ((b4 fa cdv (k+60)).env L) E)
  (hi:i<=3) (n:Now w G aY L (dA [("turn",v)]) st mm X aA s0.heap) (ae:(adr X).Nodup) (J:tZ w t oth i st X)
  (kk:∀fl aT aV aS aB h' aU,(fl=.next\/fl=.cont)->tZ w t oth (i+1) aT aS->adr aB=adr aA->Now w G aY L (dA []) aT aV aS aB h'->(adr aS).Nodup->Q fl {s0 with heap:=h',toks:=aU}):
  wpAny (model rw1.prog w) A (execs AB ((b4 fa cdv (k+60)).env L)) Q E s0:=by
 have hL:=C.c0 rfl
 refine SD J λs sc P z1 H hP htl htd=>?_;clear J;subst z1
 have hl:(adr aA).length=22:=by simp only[adr,bF];exact n.R.len
 rw[KM]
 show wpAny _ _ (execs ([tS 0]++[tS 1,tS 2,tS 3,tS 4,tS 5,tS 6,tS 7,tS 8,tS 9,tS 10,tS 11]) _) _ _ _
 refine dS (GP C PE n ae H λwd aF cs xs1 aw aI h1 aW e1 n1 nd1 H1=>?_)
 refine wpAny_execs_cons (A7 C (s0:={s0 with heap:=h1,toks:=aW}) n1 nd1 H1 λaD cs' au aQ aJ h2 aX D h5 e2 n2 nd2 H2=>?_)
 show wpAny _ _ (execs ([tS 2]++[tS 3,tS 4,tS 5,tS 6,tS 7,tS 8,tS 9,tS 10,tS 11]) _) _ _ _
 have n2:Now w G aY L (iX aF) (cH (jO {s with wd:=some wd.n,cells:=cs'} t sc) (aD.map cF)) aQ au aJ h2:=n2
 have H2:Hd w au ((aD.map pg++(s.eqs.grs++oth))++sc.grs P):=Hd.perm (by rw[bB];exact bJ _ bM) H2
 refine dS (L8 C (s0:={s0 with heap:=h2,toks:=aX}) PE n2 nd2 H2 hP λsc' P' sa xs3 mm3 aK h3 tk3 hget hP' e3 n3 nd3 H3=>?_)
 show wpAny _ _ (execs ([tS 3,tS 4]++[tS 5,tS 6,tS 7,tS 8,tS 9,tS 10,tS 11]) _) _ _ _
 have H3:Hd w xs3 ((cG (eU aF) (P' aF),sa)::((aD.map pg++(s.eqs.grs++oth))++sc'.rest P' aF)):=Hd.perm bt H3
 refine dS (GS C (s0:={s0 with heap:=h3,toks:=tk3}) PE n3 nd3 H3 rfl λxs4 mm4 aL h4 tk4 e4 n4 nd4 H4 hsa=>?_)
 have H4:Hd w xs4 (mV aD ((cG (eU aF) (P' aF),sa)::(sc'.rest P' aF++oth)) s.eqs):=Hd.perm (pm0 (aD.map pg) s.eqs.grs oth (sc'.rest P' aF) (cG (eU aF) (P' aF),sa)) H4
 have am:=hP' aF
 have e4':adr aL=adr aA++[D]:=by rw[e4,e3,e2,e1]
 have fin:∀(fl:Flow) (eq:Sh) (td:List Str) (l:List Value) mm9 xs9 news9 h9 tk9,(fl=.next\/fl=.cont)->l.length<=i+1->td.length<=2*(i+1)->(∀x∈td,(x=kI/\eq.hasF=true)\/(x=kJ/\eq.hasR=true))->adr news9=adr aA++[D]->
   Now w G aY L (dA []) (cH {jO {s with wd:=some wd.n,cells:=cs',eqs:=eq,told:=td} t sc' with sec:=cS sa} (aD.map cF)) mm9 xs9 news9 h9->(adr xs9).Nodup->Hd w xs9 (((cG (eU aF) l,sa)::(sc'.rest P' aF++oth))++eq.grs)->Q fl {s0 with heap:=h9,toks:=tk9}:=by
  intro fl eq td l mm9 xs9 news9 h9 tk9 hfl hl9 ht9 hd9 e9 n9 nd9 H9
  refine kS (L7 hL n9 nd9 H9) λxs10 news10 n10 nd10 H10 e10=>?_
  refine kk fl _ mm9 xs10 news10 h9 tk9 hfl ⟨{s with wd:=some wd.n,cells:=cs',eqs:=eq,told:=td,sec:=cS sa},sc',yB P' aF l,rfl,?_,λb=>?_,ht9,hd9⟩ ?_ n10 nd10
  ·refine Hd.perm (List.Perm.append_right _ ?_) (Hd.perm (pm5 eq.grs oth (sc'.rest P' aF) (cG (eU aF) l,sa)) H10)
   have q:=Sc.perm (P:=yB P' aF l) hget
   rw[DP,show yB P' aF l aF=l from by unfold yB;rw[if_pos rfl]] at q
   exact q.symm
  ·unfold yB
   by_cases hb:b=aF
   ·rw[if_pos hb];exact hl9
   ·rw[if_neg hb];exact Nat.le_succ_of_le (hP' b)
  ·rw[e10,e9,<-hl,List.take_left]
 refine wpAny_execs_cons (GY (s:={jO {s with wd:=some wd.n,cells:=cs'} t sc' with sec:=cS sa}) (wd:=wd) C XB TB (s0:={s0 with heap:=h4,toks:=tk4}) h5 n4 nd4 H4 rfl (by omega)
  (λb fs sh oa mm5 xs5 aM h5' tk5 hres e5 n5 nd5 H5 hge hneed=>?_) λer sh mm5 xs5 aM h5' tk5 hres e5 n5 nd5 H5 hge=>?_)
 ·
  obtain⟨hsz,hfl⟩:=C9 hres
  rw[bF] at hsz hfl
  rw[bF] at hfl
  refine wpAny_execs_cons (y0 (s:={jO {s with wd:=some wd.n,cells:=cs',eqs:=sh} t sc' with sec:=cS sa}) (wd:=wd) C (s0:={s0 with heap:=h5',toks:=tk5}) h5 n5 nd5 H5 (λb' ds sh' da aR xs6 aN h6 tk6 hres' e6 n6 nd6 H6 hby=>?_) λer aR xs6 aN h6 tk6 hres' e6 n6 nd6 H6=>?_)
  ·obtain⟨hb,hfd⟩:=C8 hres hres'
   rw[<-hb] at hres';rw[<-hb] at H6
   have hF:sh'.hasF=true->sh.hasF=true:=λh=>hneed .dist (hby.1 h)
   have hR:sh'.hasR=true->sh.hasR=true:=λh=>hneed .way (hby.2 h)
   have told:∀x∈s.told++sh'.names,(x=kI/\sh.hasF=true)\/(x=kJ/\sh.hasR=true):=by
    intro x hx
    rcases bN.mp hx with hx|hx
    ·rcases htd x hx with⟨a,c⟩|⟨a,c⟩
     ·exact .inl ⟨a,hge.1 c⟩
     ·exact .inr ⟨a,hge.2 c⟩
    ·cases sh' with
     |n=>cases hx
     |f a=>exact .inl ⟨bo.mp hx,hF rfl⟩
     |r a=>exact .inr ⟨bo.mp hx,hR rfl⟩
     |fr a c=>
      rcases bX.mp hx with q|q
      ·exact .inl ⟨q,hF rfl⟩
      ·exact .inr ⟨bo.mp q,hR rfl⟩
     |rf a c=>
      rcases bX.mp hx with q|q
      ·exact .inl ⟨q,hF rfl⟩
      ·exact .inr ⟨bo.mp q,hR rfl⟩
   have htl2:(s.told++sh'.names).length<=2*(i+1):=by
    have:=rX sh'
    rw[bI]
    omega
   have e6':adr aN=adr aA++[D]:=by rw[e6,e5,e4']
   have tail:∀(l:List Value) (gs:List Gr) mm7 xs7 aO h7 tk7,l.length<=i+1->adr aO=adr aN->Now w G aY L (nX (.lit (cS da))) (cH {jO {s with wd:=some wd.n,cells:=cs',eqs:=sh} t sc' with sec:=cS sa} (aD.map cF)) mm7 xs7 aO h7->(adr xs7).Nodup->
     Hd w xs7 (k8 b (ds.map λf=>cS f.2) sh' sh da++(((cG (eU aF) l,sa)::(sc'.rest P' aF++oth))++gs))->wpAny (model rw1.prog w) A (execs [tS 10,tS 11] ((b4 fa cdv (k+60)).env L)) Q E {s0 with heap:=h7,toks:=tk7}:=by
    intro l gs mm7 xs7 aO h7 tk7 hll e7 n7 nd7 H7
    refine GW (s:={jO {s with wd:=some wd.n,cells:=cs',eqs:=sh} t sc' with sec:=cS sa}) C (s0:={s0 with heap:=h7,toks:=tk7}) PE hF hR (by show s.told.length+2<=100;omega) n7 nd7 H7 λmm8 xs8 aP h8 tk8 e8 n8 nd8 H8=>?_
    refine fin .next sh (s.told++sh'.names) l mm8 xs8 aP h8 tk8 (.inl rfl) hll htl2 told (e8.trans (e7.trans e6')) n8 nd8 ?_
    have H9:=Hd.perm bM H8
    unfold k8 at H9
    have q1:((jV b (ds.map λf=>cS f.2) sh'.srt,da)::(sh'.hgs++sh.grs))++(((cG (eU aF) l,sa)::(sc'.rest P' aF++oth))++gs)=((jV b (ds.map λf=>cS f.2) sh'.srt,da)::sh'.hgs)++(sh.grs++(((cG (eU aF) l,sa)::(sc'.rest P' aF++oth))++gs)):=by simp
    rw[q1] at H9
    have H10:=Hd.right H9
    rw[<-bB] at H10
    exact Hd.perm bM (Hd.left H10)
   show wpAny _ _ (execs ([tS 7,tS 8,tS 9]++[tS 10,tS 11]) _) _ _ _
   by_cases hb0:b.size=0
   ·have hds:ds=[]:=by
     have h0:aD.length=0:=by
      rw[hsz] at hb0
      rcases Nat.mul_eq_zero.mp hb0 with q|q
      ·exact absurd q (Nat.ne_of_gt wd.n_pos)
      ·exact q
     have:=congrArg List.length hfd
     rw[bF,bF] at this
     exact bv (by omega)
    rw[hds] at hfd;rw[hds] at hres';rw[hds] at H6;rw[hds] at tail
    unfold AZ at H6
    rw[if_pos hb0] at H6
    have H7:Hd w xs6 (oP (eU aF) (P' aF) b sh'.srt sa da++(sh'.hgs++(sh.grs++(sc'.rest P' aF++oth)))):=by
     exact Hd.right (Hd.perm (pm1 sh'.hgs (fs.map (fg wd)) sh.grs (sc'.rest P' aF++oth) (cG (eU aF) (P' aF),sa) (jV b [] sh'.srt,da)) (Hd.right H6))
    refine dS (GU C (s0:={s0 with heap:=h6,toks:=tk6}) PE (by omega) hb0 n6 nd6 H7 λmm7 xs7 aO h7 tk7 e7 n7 nd7 H8=>?_)
    refine tail (P' aF) [] mm7 xs7 aO h7 tk7 (by omega) e7 n7 nd7 ?_
    exact Hd.perm (pm2 sh'.hgs sh.grs (sc'.rest P' aF++oth) (cG (eU aF) (P' aF),sa) (jV b [] sh'.srt,da)) H8
   ·unfold AZ at H6
    rw[if_neg hb0] at H6
    have H7:Hd w xs6 (l0 wd (eU aF) (P' aF) b fs ds sh'.srt sa da oa++(sh'.hgs++(sh.grs++(sc'.rest P' aF++oth)))):=by
     exact Hd.perm (pm3 sh'.hgs (fs.map (fg wd)) sh.grs (ds.map (pW wd)) (sc'.rest P' aF++oth) (cG (eU aF) (P' aF++[cS oa]),sa) (jV b (tX ds) sh'.srt,da) (lB b (tX fs),oa)) (Hd.right H6)
    refine dS (GV C (s0:={s0 with heap:=h6,toks:=tk6}) PE (by omega) (by omega) hfd hb0 n6 nd6 H7 λmm7 xs7 aO h7 tk7 e7 n7 nd7 H8=>?_)
    refine tail (P' aF++[cS oa]) ((lB b (tX fs),oa)::(fs.map (fg wd)++ds.map (pW wd))) mm7 xs7 aO h7 tk7 (by rw[bI];show _+1<=_;omega) e7 n7 nd7 ?_
    exact Hd.perm (pm4 sh'.hgs (fs.map (fg wd)) sh.grs (ds.map (pW wd)) (sc'.rest P' aF++oth) (cG (eU aF) (P' aF++[cS oa]),sa) (jV b (tX ds) sh'.srt,da) (lB b (tX fs),oa)) H8
  ·rw[hres] at hres';exact UE hres'.symm
 ·
  refine wpAny_execs_cons (y0 (s:={jO {s with wd:=some wd.n,cells:=cs',eqs:=sh} t sc' with sec:=cS sa}) (wd:=wd) C (s0:={s0 with heap:=h5',toks:=tk5}) h5 n5 nd5 H5 (λb' ds sh' da aR xs6 aN h6 tk6 hres' e6 n6 nd6 H6 hby=>?_) λer' aR xs6 aN h6 tk6 hres' e6 n6 nd6 H6=>?_)
  ·rw[hres] at hres';exact UE hres'
  ·obtain rfl:er=er':=by rw[hres] at hres';cases hres';rfl
   show wpAny _ _ (execs ([tS 7]++[tS 8,tS 9,tS 10,tS 11]) _) _ _ _
   have H7:Hd w xs6 ((cG (eU aF) (P' aF),sa)::(sh.grs++(sc'.rest P' aF++oth))):=Hd.perm bt (Hd.right H6)
   refine dS (L6 C (s0:={s0 with heap:=h6,toks:=tk6}) PE (by omega) n6 nd6 H7 λmm7 xs7 aO h7 tk7 e7 n7 nd7 H8=>?_)
   refine fin .cont sh s.told (P' aF) mm7 xs7 aO h7 tk7 (.inr rfl) (by omega) (by omega) (λx hx=>?_) (by rw[e7,e6,e5,e4']) n7 nd7 ?_
   ·rcases htd x hx with⟨a,c⟩|⟨a,c⟩
    ·exact .inl ⟨a,hge.1 c⟩
    ·exact .inr ⟨a,hge.2 c⟩
   ·refine Hd.perm ?_ H8
    refine bM.trans ?_
    show((cG (eU aF) (P' aF),sa)::(sh.grs++(sc'.rest P' aF++oth))).Perm ((cG (eU aF) (P' aF),sa)::((sc'.rest P' aF++oth)++sh.grs))
    exact List.Perm.cons _ bM
end
def tTp:Pos:=match aCj with| .Name _ p=>p|_=>default
def tFp:Pos:=match vT with| .For _ _ _ _ p=>p|_=>default
def tE:Expr:=match sG with| .Call _ [e] _ _=>e|_=>.Constant .none 0 default
theorem NE:vT=.For (.Name "turn" tTp) sG AB [] tFp:=by kernel_rfl
theorem KN:fO sG=some tE:=by kernel_rfl
theorem aCh (fa:Addr) (cdv:Value) (k:Nat):jE tb (b4 fa cdv k).scope.names=true:=by kernel_rfl
theorem tEv (s:LS) (fa:Addr) (cdv:Value) (k:Nat):E0.E (b4 fa cdv (k+60)) s.sT (dA []) tE=.ret (.int 4,s.sT):=by kernel_rfl
noncomputable def itm (i:Nat):Itm:=Itm.tok (λt=>.int ((i:Nat):Int) t)
theorem pm6 {α:Type} (A C:List α) (r:α):(r::(A++(C++[]))).Perm (A++(C++[r])):=by
 classical
 rw[List.perm_iff_count]
 intro a
 simp only[List.count_append,List.count_cons,List.count_nil,Nat.zero_add,Nat.add_zero]
 ac_rfl
section
variable {w:World}
theorem GT {fa:Addr} {cdv:Value}
  (C:Fx w (b4 fa cdv (k+60)) A [] aZ base aY L p loose aC mg mb) (XB:(K w.params).In base) (TB':Top p loose aC mg mb base) {s0:Shared} {s:LS} {sc:Sc} {t:Value} (PE:PassesOwn (model rw1.prog w) A ((b4 fa cdv (k+60)).env L) E)
  (n:Now w G aY L (dA []) (jO s t sc).sT mm X aA s0.heap) (ae:(adr X).Nodup) (J:tZ w t [] 0 (jO s t sc).sT X)
  (kk:∀aT aV aS aB h' aU,tZ w t [] 4 aT aS->adr aB=adr aA->Now w G aY L (dA []) aT aV aS aB h'->(adr aS).Nodup->Q .next {s0 with heap:=h',toks:=aU}):
  wpAny (model rw1.prog w) A (exec vT ((b4 fa cdv (k+60)).env L)) Q E s0:=by
 have ac:(b4 fa cdv (k+60)).cs=none:=rfl
 have hL:=C.c0 ac
 have e0:=Fn.env0 ac L
 have PE':PassesOwn (model rw1.prog w) A ((b4 fa cdv (k+60)).fenv L) E:=by rw[<-e0];exact PE
 have hpl:d5 sG=true:=by
  refine iJ (hU KN) λp1 p2 e _=>?_
  rw[e]
  rfl
 rw[NE,e0]
 refine For_turns (env:=(b4 fa cdv (k+60)).fenv L) n.F ?_ (dB hpl _) PE'
 rw[show eval sG ((b4 fa cdv (k+60)).fenv L)=eval sG ((b4 fa cdv (k+60)).env L) from by rw[e0]]
 refine jH (K9 w) (I0 w) ac KN (aCh fa cdv (k+60)) C (cP (tEv (jO s t sc) fa cdv k)) n (λv aT m tk aB h' aU af x n' hv r tr ur hIs=>?_) λv aT af=>by(refine pI af λe1 e2=>?_;clear af;subst e1 e2);exact⟨4,rfl⟩
 refine pI af λe1 e2=>?_;clear af;replace hv:=e1▸hv;replace n':=e2▸n'
 obtain⟨tk0,hv⟩:=hv
 cases hv
 have ea:adr aB=adr aA:=cM x n.R n'.R
 refine nU (n:=4) C.hh hIs (by omega) n'.F n'.NX λI₀ lt=>?_
 refine mW C ac (s:={s0 with heap:=h',toks:=aU}) (G:=G) (ρ₀:=adr aA) (ws:=[(I₀,_)]) (keep:=[])
  (λus loc st xs _=>∃i,i<=4/\us=(List.range' i (4-i)).map itm/\loc=dA []/\tZ w t [] i st xs) (λ_ _ _ _=>False) (by simp) (λ_ _ _ _ _ _ _ _=>trivial) ?_ ?_ ?_ _ ⟨0,by omega,rfl,rfl,J⟩ ea n'.R n'.off ae n'.V (GD lt)
 ·intro a us loc st xs aJ aQ its h2 aX v zz e2 n2 nd2 ha Qb k1 _;refine DU zz λi hi hus y3 J2=>?_;clear zz;subst y3
  have hi3:i<=3:=by
   rcases be i 4 with q|q
   ·omega
   ·have:4-i=0:=by omega
    rw[this] at hus
    exact xA hus.symm
  have hus:a::us=itm i::(List.range' (i+1) (4-(i+1))).map itm:=by
   rw[hus,show 4-i=(4-(i+1))+1 from by omega,List.range'_succ]
   rfl
  obtain⟨ha',hus2⟩:=List.cons.inj hus
  replace hus:=ha'▸hus;replace ha:=ha'▸ha;replace hus:=ha'▸hus
  refine ZR J2 λs2 sc2 P2 z1 H2 r2=>?_;clear J2;subst z1
  have J3:tZ w t [j2 its] i (jO s2 t sc2).sT (its++xs):=⟨s2,sc2,P2,rfl,Hd.perm (pm6 _ _ _) (p4 nd2 H2),r2⟩
  rw[<-e0]
  refine assign_Name (gF (fn:=b4 fa cdv (k+60)) (x:="turn") ac (by rfl) C.hk hL (s:={s0 with heap:=h2,toks:=aX}) n2 (v:=.lit v) rfl λmm3 h3 tk3 n3=>?_)
  refine GX C XB TB' (s0:={s0 with heap:=h3,toks:=tk3}) (v:=.lit v) PE hi3 n3 nd2 J3 λfl st4 mm4 xs4 aL h4 tk4 hfl J4 e4 n4 nd4=>?_
  refine ZR J4 λs4 sc4 P4 z1 H4 r4=>?_;clear J4;rw[z1] at n4
  have H5:Hd w xs4 (j2 its::(sc4.grs P4++(s4.eqs.grs++[]))):=Hd.perm (pm6 _ _ _).symm H4
  obtain⟨xs5,n5,nd5,H6⟩:=kF n4 nd4 (λc hc=>by rw[hL] at hc;exact b5 hc) H5
  exact k1 fl _ _ mm4 xs5 aL h4 tk4 hfl ⟨i+1,by omega,hus2,rfl,s4,sc4,P4,rfl,H6,r4⟩ (e4.trans e2) n5 nd5
 ·intro loc st aQ xs aJ h2 aX zz e2 n2 nd2;refine DU zz λi hi hus y3 J2=>?_;clear zz;subst y3
  have:i=4:=by
   have:=congrArg List.length hus
   rw[bF,List.length_range'] at this
   have:0=4-i:=this
   omega
  rw[this] at hi;rw[this] at hus;rw[this] at J2
  exact kk st aQ xs aJ h2 aX J2 e2 n2 nd2
 ·intro u loc st aQ xs aJ h2 aX hF
  exact hF.elim
end
end Mine.L
namespace Mine.R
open Mine Mine.X Mine.L
section
variable {w:World}
theorem uV {x:Str} {cl:Loc} {ct elt:Expr} {j:Nat} {aq:List SV} (fz:st[j]? =some .fz):∀(vs:List SV),(∀v∈vs,ih.T fn st ((x,v)::cl) ct=.ret (false,st))->OB ih fn x cl (some ct) elt j vs st aq=.ret (aq,st)
 |[],_=>rfl
 |v::r,h=>by
  have hz:gJ st j=true:=by unfold gJ;rw[fz]
  unfold OB
  simp only
  rw[h v (.head _)]
  show(match gJ st j with|true=>_|false=>_)=_
  rw[hz]
  exact uV fz r λu hu=>h u (.tail _ hu)
theorem AR {sc:PySem.Scope} {x:Str} {cl:Loc} {ct elt it:Expr} {gens:List Comprehension} {cp:Pos}
  (C:Fx w fn A outer aZ base aY L p loose aC mg mb) (ac:fn.cs=none) {st2:List SO} {Q:Value->Shared->Prop}
  (n:Now w G aY L loc st mm xs aA s.heap) (hg:gL gens=some (x,it,some ct)) (hb:(fF sc x&&d5 it)=true) (hf:dE fn loc sc.names=some cl) {j n0:Nat} (he:E0.E fn st loc it=.ret (.obj j,st2)) (hj:st2[j]? =some (.listB n0 vs)) (hsm:vs.length<=1000)
  (ht:∀v∈vs,E0.T (fn.blk sc) (st2.set j .fz) ((x,v)::cl) ct=.ret (false,st2.set j .fz))
  (kk:∀aB h' aU D,Ext (adr aA) (adr aB)->Now w G aY L loc (st2.set j (.list vs)++[.list []]) mm xs aB h'->RV (adr aB) (.obj st2.length) (.ref D)->Q (.ref D) {s with heap:=h',toks:=aU}):
  wpAny (model rw1.prog w) A (eval (.ListComp elt gens sc cp) (fn.env L)) Q E s:=by
 have hL:=C.c0 ac
 simp only[bG] at hb
 refine zO (eO hb.1) λhk hcell ah hlx=>?_
 have hcl:closureFor sc (fn.env L)=pure (j8 (fn.env L) sc.names []):=eM λq hq e=>by rw[Fn.env0 ac];exact(dN hL n.V hf).1 q hq e
 obtain⟨px,rfl⟩:=fV hg
 refine LCt.ListComp_T n.F hcl hcell hk ah hlx ((I0 w).Eq fn st loc it C (cP he) n λu aB h' aU xt n' hv=>?_) (dB hb.2 _)
 refine b7 hv λax ha z1=>?_;clear hv;subst z1
 have hlt:j<st2.length:=rV hj
 have n2:=Now.weak n' (i:=j) (so:=.listB n0 vs) (so':=.list vs) hj (λρ a o h=>h.1)
 have hs:(st2.set j (.list vs))[j]? =some (.list vs):=by rw[bc,if_pos rfl,if_pos hlt]
 refine fP (cU n2.N n2.R hs ha) λws q hw hq il=>?_
 have hmem:(ax,listOf ws.toArray q)∈xs++aB:=ay _ (bD hq)
 have hwl:ws.length<=1000:=by rw[hw.len];exact hsm
 refine LCt.CompSrcT.ledger C.hh n2.F n2.NX hmem (by rw[bT];exact bl hwl gX) λg=>?_
 have fz0:=xP hs
 have R0:=dL n2.R hq
 have e2:(st2.set j (.list vs)).set j .fz=st2.set j .fz:=List.set_set ..
 rw[e2] at fz0 R0
 have:=XK (I0 w) C ac (sc:=sc) (loc:=loc) (G:=ghost G ax (listOf ws.toArray q)) (ρ₀:=adr aB) (its:=ws.toArray) (lo:=listOf ws.toArray q) (s:={s with heap:=g,toks:=aU}) (mm:=mm) (xs:=xs) (φ:=λy=>y=([],st2.set j .fz)) hf ha (by unfold ghost;rw[if_pos rfl]) ⟨rfl,q,rfl⟩
  (Fin:=LCg.FinE aY L.a mm {s with heap:=g,toks:=aU} Q) (λaq st3 ys aJ h2 x2 R2 off2 fz2 hy=>?_)
  vs ws 0 (st2.set j .fz) [] [] aB (by rw[uV (elt:=elt) fz0 vs ht];exact rfl) .rfl' hw (by simp) trivial R0 n2.off fz0 n2.V
 ·simpa using this
 ·first|exact b5 h2|(refine pI h2 λe1 e2=>?_;clear h2;(rw[e1] at hy;rw[e2] at R2;rw[e2] at fz2))
  intro D h3 tk3 F3 N3 o1
  cases ys with
  |cons=>exact hy.elim
  |nil=>
  obtain⟨n3,r3⟩:=kA (loc:=loc) (loc':=loc) (mm:=mm) (news0:=aA) (aq:=[]) R2 (x2.get ha) fz2 (hw.ext x2) off2 n'.CX hy F3 N3 o1 (λx v hx=>((n'.V x v hx).ext x2).ext ext_push)
  rw[List.set_set] at n3
  rw[List.set_set,bq] at r3
  exact kk _ h3 tk3 D ((xt.trans x2).trans ext_push) n3 r3
end
end Mine.R
namespace Mine.L
open Mine Mine.R Mine.X
def DN:Stmt:=zM (.Pass default) lawD.body 6
def rE:Expr:=match DN with| .Return (some e) _=>e|_=>.Constant .none 0 default
def aCM:Pos:=match DN with| .Return _ p=>p|_=>default
def rEs:List Expr:=match rE with| .BoolOp _ l _=>l|_=>[]
def rBp:Pos:=match rE with| .BoolOp _ _ p=>p|_=>default
def rC1:Expr:=zM (.Constant .none 0 default) rEs 0
def rC2:Expr:=zM (.Constant .none 0 default) rEs 1
def rLc:Expr:=match rC2 with| .Compare l _ _ _=>l|_=>.Constant .none 0 default
def rR:Expr:=match rC2 with| .Compare _ _ [r] _=>r|_=>.Constant .none 0 default
def aCD:Pos:=match rC2 with| .Compare _ _ _ p=>p|_=>default
def aCK:Expr:=match rLc with| .ListComp e _ _ _=>e|_=>.Constant .none 0 default
def zS:List Comprehension:=match rLc with| .ListComp _ g _ _=>g|_=>[]
def rSc:PySem.Scope:=match rLc with| .ListComp _ _ s _=>s|_=>default
def rLp:Pos:=match rLc with| .ListComp _ _ _ p=>p|_=>default
def rIt:Expr:=match zS with|[g]=>g.iter|_=>.Constant .none 0 default
def rCt:Expr:=match zS with|[g]=>zM (.Constant .none 0 default) g.ifs 0|_=>.Constant .none 0 default
theorem NF:DN=.Return (some (.BoolOp .And [rC1,.Compare (.ListComp aCK zS rSc rLp) [.Eq] [rR] aCD] rBp)) aCM:=by kernel_rfl
theorem MW:gL zS=some (("name":Str),rIt,some rCt):=by kernel_rfl
theorem aCC:(fF rSc "name"&&d5 rIt)=true:=by kernel_rfl
noncomputable def rCl:Loc:=[("collector",.cell 1)]
theorem ZS (fa:Addr) (cdv:Value) (k:Nat):dE (b4 fa cdv k) (dA []) rSc.names=some rCl:=by kernel_rfl
noncomputable def k9:List SV:=[.str "count",.str "spot",.str "way"]
def ZT (s:LS):List SO:=s.sT++[.list k9]
def S9 (s:LS):List SO:=s.sT++[.list k9,.listB 103 (k9++s.told.map .str)]
theorem rV1 (s:LS) (fa:Addr) (cdv:Value) (k:Nat):E0.E (b4 fa cdv (k+60)) s.sT (dA []) rC1=.ret (.bool true,ZT s):=by kernel_rfl
theorem rV2 (s:LS) (fa:Addr) (cdv:Value) (k:Nat):E0.E (b4 fa cdv (k+60)) (ZT s) (dA []) rIt=.ret (.obj 23,S9 s):=by kernel_rfl
def C4 (s:LS):List SO:=(S9 s).set 23 .fz
def TC (s:LS):List SO:=(S9 s).set 23 (.list (k9++s.told.map .str))++[.list []]
theorem rV4 (s:LS) (fa:Addr) (cdv:Value) (k:Nat):E0.E (b4 fa cdv (k+60)) (TC s) (dA []) rR=.ret (.obj 25,TC s++[.list []]):=by kernel_rfl
theorem rV5 (s:LS):LJ (TC s++[.list []]) .Eq (.obj 24) (.obj 25)=some true:=by kernel_rfl
theorem rNs:qF rR=true:=by kernel_rfl
theorem rTk (s:LS) (fa:Addr) (cdv:Value) (k:Nat):∀v∈k9,E0.T ((b4 fa cdv (k+60)).blk rSc) (C4 s) (("name",v)::rCl) rCt=.ret (false,C4 s):=by
 intro v hv
 simp only[k9,bX,List.not_mem_nil,or_false] at hv
 rcases hv with rfl|rfl|rfl<;>kernel_rfl
theorem rTf (s:LS) (fa:Addr) (cdv:Value) (k:Nat) (h:s.eqs.hasF=true):E0.T ((b4 fa cdv (k+60)).blk rSc) (C4 s) (("name",.str kI)::rCl) rCt=.ret (false,C4 s):=by
 obtain⟨wd,cells,sec,ga,secs,nms,eqs,told⟩:=s
 cases eqs with
 |n=>exact d9 h
 |f a=>kernel_rfl
 |r a=>exact d9 h
 |fr a b=>kernel_rfl
 |rf a b=>kernel_rfl
theorem rTr (s:LS) (fa:Addr) (cdv:Value) (k:Nat) (h:s.eqs.hasR=true):E0.T ((b4 fa cdv (k+60)).blk rSc) (C4 s) (("name",.str kJ)::rCl) rCt=.ret (false,C4 s):=by
 obtain⟨wd,cells,sec,ga,secs,nms,eqs,told⟩:=s
 cases eqs with
 |n=>exact d9 h
 |f a=>exact d9 h
 |r a=>kernel_rfl
 |fr a b=>kernel_rfl
 |rf a b=>kernel_rfl
section
variable {w:World}
theorem L9 {fa:Addr} {cdv:Value}
  (C:Fx w (b4 fa cdv (k+60)) A outer aZ base aY L p loose aC mg mb) {s0:Shared} {t:Value}
  (n:Now w G aY L (dA []) st mm X aA s0.heap) (J:tZ w t [] 4 st X)
  (kk:∀aT aB h' aU,Now w G aY L (dA []) aT mm X aB h'->Q (.ret (.bool true)) {s0 with heap:=h',toks:=aU}):
  wpAny (model rw1.prog w) A (exec DN ((b4 fa cdv (k+60)).env L)) Q E s0:=by
 refine SD J λs1 sc P z1 H hP htl htd=>?_;clear J;rw[z1] at n
 rw[NF]
 refine wpAny_Return_some (BoolOp_and ((I0 w).Eq _ _ _ _ C (cP (rV1 (jO s1 t sc) fa cdv k)) n λu1 aI h1 aW x1 n1 hv1=>?_))
 cases hv1
 refine wpAny_truthy_bool ?_
 simp only[if_true]
 refine BoolOp_one (wpAny_Compare1 (AR C rfl (s:={s0 with heap:=h1,toks:=aW}) n1 MW aCC (ZS fa cdv (k+60)) (j:=23) (n0:=103) (vs:=k9++(jO s1 t sc).told.map .str) (rV2 (jO s1 t sc) fa cdv k) rfl ?_ ?_ λaJ h2 aX D x2 n2 hD=>?_) (qH rNs))
 ·have:s1.told.length<=8:=htl
  rw[bI,bF]
  show 3+s1.told.length<=1000
  omega
 ·intro v hv
  rcases bN.mp hv with hv|hv
  ·exact rTk (jO s1 t sc) fa cdv k v hv
  ·refine b7 (bY.mp hv) λx hx z1=>?_;subst z1
   rcases htd x hx with⟨rfl,h⟩|⟨rfl,h⟩
   ·exact rTf (jO s1 t sc) fa cdv k h
   ·exact rTr (jO s1 t sc) fa cdv k h
 ·refine(I0 w).Eq _ _ _ _ C (cP (rV4 (jO s1 t sc) fa cdv k)) n2 λu3 aK h3 tk3 x3 n3 hv3=>?_
  exact sL (rV5 (jO s1 t sc)) rfl n3 C.room (hD.ext x3) hv3 λtk4=>kk _ aK h3 tk4 n3
end
end Mine.L
namespace Mine.R
open Mine Mine.X Mine.L
section
variable {w:World}
theorem E5 {sc:PySem.Scope} {x:Str} {cl:Loc} {elt:Expr}
  (C:Fx w fn A outer aZ base aY L p loose aC mg mb) (ac:fn.cs=none) {Q:Value->Shared->Prop}
  (n1:Now w G aY L loc st mm xs aA s.heap) (ndx:(adr xs).Nodup) (hf:dE fn loc sc.names=some cl) {j:Nat} {ax:Addr} (hj:st[j]? =some (.list (us.map .lit))) (ha:(adr aA)[j]? =some ax) (hsm:us.length<=1000)
  (J:List Value->List Value->List SO->dJ->Prop) (J0:J us [] (st.set j .fz) xs) (hz:∀r ys st xs,J r ys st xs->st[j]? =some .fz)
  (step:∀v r ys st xs aB h tk G',J (v::r) ys st xs->adr aB=adr aA->∀(c:CF) (z3:dJ),Now w G' aY ⟨L.a,L.cl,some c⟩ ((x,.lit v)::cl) st mm (z3++xs) aB h->(c.C,c.oC)∈z3->(adr (z3++xs)).Nodup->∀(Q':Value->Shared->Prop) (E':Value->Shared->Prop),
   (∀y aT aS aB loc' h' aU,J r (ys++[y]) aT aS->adr aB=adr aA->Now w G' aY ⟨L.a,L.cl,some c⟩ loc' aT mm (z3++aS) aB h'->(adr (z3++aS)).Nodup->Q' y {s with heap:=h',toks:=aU})->
   Fx w (fn.blk sc) A outer aZ base aY ⟨L.a,L.cl,some c⟩ p loose aC mg mb->
   wpAny (model rw1.prog w) A (eval elt ((fn.blk sc).env ⟨L.a,L.cl,some c⟩)) Q' E' {s with heap:=h,toks:=tk})
  (fin:∀ys st xs aB h tk D,J [] ys st xs->adr aB=adr aA++[D]->Now w G aY L loc (st.set j (.list (us.map .lit))++[.list (ys.map .lit)]) mm xs aB h->(adr xs).Nodup->Q (.ref D) {s with heap:=h,toks:=tk}):
  LCg.CompSrc rw1.prog w A aY L.a mm (fn.env L) elt x sc (j8 (fn.env L) sc.names []) (λs₂=>LCg.FinE aY L.a mm s₂ Q) (.ref ax) s:=by
 have hL:=C.c0 ac
 refine fP (cU n1.N n1.R hj ha) λws q hw hq il=>?_
 obtain rfl:=o7 hw
 have hmem:(ax,listOf ws.toArray q)∈xs++aA:=ay _ (bD hq)
 refine LCg.CompSrc.ledger C.hh n1.F n1.NX hmem (by rw[bT];exact bl hsm gX) λg=>?_
 have fz0:=xP hj
 have key:=lU (prog:=rw1.prog) C ac (x:=x) (sc:=sc) (loc:=loc) (G:=ghost G ax (listOf ws.toArray q)) (ρ₀:=adr aA) (s:={s with heap:=g}) (mm:=mm) (total:=ws.length) (elt:=elt) (Src:=LCg.SrcAt aY ax ws.toArray) (Pi:=λi v=>ws.toArray[i]? =some v) hf n1.V (Fin:=LCg.FinE aY L.a mm {s with heap:=g} Q)
  (λi ys st xs _=>J (ws.drop i) ys st xs) ?_ ?_ ?_ ws.length 0 [] (st.set j .fz) xs aA (by simp) (by simpa using J0) rfl (dL n1.R hq) n1.off ndx
 ·simpa using key
 ·intro i ys st2 au aJ hJ e2 R2
  refine b7 (R2.at_ j _ (hz _ _ _ _ hJ)) λq2 hq2 hr=>?_
  have e1:(adr aJ)[j]? =some q2.1:=by simp[adr,hq2]
  have e3:q2.1=ax:=by rw[e2,ha] at e1;exact(bS e1).symm
  have e4:q2.2=listOf ws.toArray q:=by have:q2.2=ghost G ax (listOf ws.toArray q) q2.1:=hr;rw[this,e3];unfold ghost;rw[if_pos rfl]
  exact .inr ⟨listOf ws.toArray q,by
                    have:q2=(ax,listOf ws.toArray q):=by rw[<-e3,<-e4]
                    rw[<-this];exact ay _ (bD hq2),rfl,q,rfl⟩
 ·intro i ys st2 au aJ hi hJ e2 v hv c z3 h2 aX n2 hc nd2 Q' E' kk Cb
  have hd:ws.drop i=v::ws.drop (i+1):=by
   have hv':ws[i]? =some v:=by simpa using hv
   obtain⟨h1,h2⟩:=List.getElem?_eq_some_iff.mp hv'
   rw[List.drop_eq_getElem_cons h1,h2]
  simp only[hd] at hJ
  exact step v (ws.drop (i+1)) ys st2 au aJ h2 aX _ hJ e2 c z3 n2 hc nd2 Q' E' (λy aT aS aB loc' h' aU a b c d=>kk y aT aS aB loc' h' aU a b c d) Cb
 ·intro ys st2 au aJ hJ e2 R2 off2 nd2 D h3 tk3 F3 N3 o1
  have hJ':J [] ys st2 au:=by simpa using hJ
  have ha2:(adr aJ)[j]? =some ax:=by rw[e2];exact ha
  obtain⟨n3,r3⟩:=kA (loc:=loc) (loc':=loc) (mm:=mm) (news0:=aA) (aq:=ys.map .lit) R2 ha2 (hz _ _ _ _ hJ') (gC ws) off2 (FL.none_cx hL) (gC ys) F3 N3 o1 (λy v hy=>by
   have:=n1.V y v hy
   rw[<-e2] at this
   exact this.ext ext_push)
  exact fin ys st2 au _ h3 tk3 D hJ' (by simp[adr,<-e2]) n3 nd2
end
end Mine.R
namespace Mine.L
open Mine Mine.R Mine.X
def lS (i:Nat):Stmt:=zM (.Pass default) lawD.body i
def c0q:Pos:=match lS 0 with| .Assign [.Name _ a] _ _=>a|_=>default
def W7:Pos:=match lS 0 with| .Assign _ _ p=>p|_=>default
def c0l:Expr:=match lS 0 with| .Assign _ e _=>e|_=>.Constant .none 0 default
def uA:Expr:=match c0l with| .ListComp e _ _ _=>e|_=>.Constant .none 0 default
def v8:List Comprehension:=match c0l with| .ListComp _ g _ _=>g|_=>[]
def c0sc:PySem.Scope:=match c0l with| .ListComp _ _ s _=>s|_=>default
def aAz:Pos:=match c0l with| .ListComp _ _ _ p=>p|_=>default
def v9:Expr:=match v8 with|[g]=>g.iter|_=>.Constant .none 0 default
def c0p:Pos:=match v9 with| .Subscript _ _ p=>p|_=>default
def c0k:Expr:=match v9 with| .Subscript _ (.Slice _ (some e) _ _) _=>e|_=>.Constant .none 0 default
def aB5:Pos:=match v9 with| .Subscript _ (.Slice _ _ _ p) _=>p|_=>default
def W8:Pos:=match v9 with| .Subscript (.Name _ p) _ _=>p|_=>default
theorem QQ:lS 0=.Assign [.Name "cells" c0q] (.ListComp uA v8 c0sc aAz) W7:=by kernel_rfl
theorem LF:v9=.Subscript (.Name "script" W8) (.Slice none (some c0k) none aB5) c0p:=by kernel_rfl
theorem EG:gL v8=some (("cell":Str),v9,none):=by kernel_rfl
theorem W4:(fF c0sc "cell"&&d5 v9)=true:=by kernel_rfl
noncomputable def cN:List Str:=["width","collector","cells"]
def kN (ax:Addr):Loc:=dO cN 0++([("script",.lit (.ref ax))]:Loc)
noncomputable def wA:List SO:=[.cell none,.cell none,.cell none]
noncomputable def AM:Loc:=[]
theorem EF (fa:Addr) (cdv:Value) (k:Nat) (ax:Addr):dE (b4 fa cdv k) (kN ax) c0sc.names=some AM:=by kernel_rfl
theorem aB0 (st:List SO) (ax:Addr) (fa:Addr) (cdv:Value) (k:Nat):E0.E (b4 fa cdv (k+60)) st (kN ax) (.Name "script" W8)=.ret (.lit (.ref ax),st):=by kernel_rfl
theorem aB1 (st:List SO) (ax:Addr) (fa:Addr) (cdv:Value) (k:Nat):E0.E (b4 fa cdv (k+60)) st (kN ax) c0k=.ret (.int 60,st):=by kernel_rfl
def W5:Pos:=match uA with| .Call (.Name _ p) _ _ _=>p|_=>default
def W6:Pos:=match uA with| .Call _ [.Name _ p] _ _=>p|_=>default
def aB4:Pos:=match uA with| .Call _ _ _ p=>p|_=>default
theorem EE:uA=.Call (.Name "int" W5) [.Name "cell" W6] [] aB4:=by kernel_rfl
theorem aB2 (st:List SO) (m:Int) (fa:Addr) (cdv:Value) (k:Nat):E0.E ((b4 fa cdv (k+60)).blk c0sc) st (("cell",.int m)::AM) (.Name "int" W5)=.ret (.lit (.type "int"),st):=by kernel_rfl
theorem aB3 (st:List SO) (m:Int) (fa:Addr) (cdv:Value) (k:Nat):E0.E ((b4 fa cdv (k+60)).blk c0sc) st (("cell",.int m)::AM) (.Name "cell" W6)=.ret (.int m,st):=by kernel_rfl
noncomputable def st0 (vs:List SV):List SO:=[.cell none,.cell none,.cell (some (.obj 3)),.listB 60 vs]
noncomputable def W9 (us ys:List SV):List SO:=[.cell none,.cell none,.cell (some (.obj 4)),.list us,.list ys]
theorem l9:∀{vs:List Value} {ns:List Int} (m:Nat),IntsAre vs ns->IntsAre (vs.take m) (ns.take m)
 |_,_,0,_=>by simp;exact .nil
 |_,_,m+1,.nil=>by simp;exact .nil
 |_,_,m+1,.cons n t h=>.cons n t (l9 m h)
theorem sX {vs:List Value} {ns:List Int} (n:Int) (t:Tok) (h:IntsAre vs ns):IntsAre (vs++[.int n t]) (ns++[n]):=by
 induction h with
 |nil=>exact .cons n t .nil
 |cons a b _ ih=>exact .cons a b ih
theorem intsAre_len {vs:List Value} {ns:List Int} (h:IntsAre vs ns):vs.length=ns.length:=by
 induction h with
 |nil=>rfl
 |cons _ _ _ ih=>exact congrArg (· +1) ih
theorem uN {vs:List Value} {ns:List Int} (h:IntsAre vs ns):RVs ρ (ns.map .int) vs:=by
 induction h with
 |nil=>exact trivial
 |cons n t _ ih=>exact⟨⟨t,rfl⟩,ih⟩
section
variable {w:World}
theorem A5 {fa:Addr} {cdv:Value}
  (C:Fx w (b4 fa cdv (k+60)) A outer aZ base aY L p loose aC mg mb) {s0:Shared} {ax:Addr} {vs:List Value} {ns:List Int}
  (n:Now w G aY L (kN ax) wA mm X aA s0.heap) (ae:(adr X).Nodup) (hl:aY.IsList ax vs.toArray) (hi:IntsAre vs ns) (hlen:vs.length<=1000)
  (kk:∀aV aS aB h' aU,Now w G aY L (dO cN 0) (st0 ((ns.take 60).map .int)) aV aS aB h'->(adr aS).Nodup->Q .next {s0 with heap:=h',toks:=aU}):
  wpAny (model rw1.prog w) A (exec (lS 0) ((b4 fa cdv (k+60)).env L)) Q E s0:=by
 have ac:(b4 fa cdv (k+60)).cs=none:=rfl
 have hL:=C.c0 ac
 have hck:=W4
 simp only[bG] at hck
 refine zO (eO hck.1) λhk hcell ah hlx=>?_
 have hcl:closureFor c0sc ((b4 fa cdv (k+60)).env L)=pure (j8 ((b4 fa cdv (k+60)).env L) c0sc.names []):=eM λq hq e=>by rw[Fn.env0 ac];exact(dN hL n.V (EF fa cdv (k+60) ax)).1 q hq e
 have hcan:lk (b4 fa cdv (k+60)).scope.names "cells"=some .cell:=by kernel_rfl
 have hg:=EG
 rw[QQ]
 refine wpAny_Assign_Name ?_ ?_
 ·obtain⟨px,hgs⟩:=fV hg
  rw[hgs]
  refine LCg.ListComp_U n.F hcl hcell hk ah hlx ?_ (dB hck.2 _)
  rw[LF]
  refine Subscript_ ((I0 w).Eq _ _ _ _ C (cP (aB0 wA ax fa cdv k)) n λu1 aI h1 aW x1 n1 hv1=>?_)
  obtain rfl:u1=.ref ax:=hv1
  refine wpAny_Slice (wpAny_pure ?_)
  refine(I0 w).Eq _ _ _ _ C (cP (aB1 wA ax fa cdv k)) n1 λu2 aJ h2 aX x2 n2 hv2=>?_
  obtain⟨t2,rfl⟩:=hv2
  refine wpAny_pure ?_
  have hl2:h2.IsList ax vs.toArray:=by
   refine b7 hl λo e1 e2=>?_;clear hl
   exact⟨o,n2.F.keep _ _ e1,e2⟩
  refine kmk_slice_lit (s:={s0 with heap:=h2,toks:=aX}) n2.F n2.NX hl2 .none (.int _ t2) (rZ vs 60) (λD h3 F3 N3 lt=>?_) rfl (λr=>rfl) (by rw[bT];exact bl hlen gX)
  refine jN (n2.push (so:=.list ((vs.take 60).map .lit)) F3 N3 lt ⟨vs.take 60,0,gC _,rfl⟩) λn3 x3 z1=>?_
  refine b7 z1 λD' hD' e3=>?_;clear z1
  cases e3
  refine E5 C ac (s:={s0 with heap:=h3,toks:=aX}) n3 ae (EF fa cdv (k+60) ax) (j:=3) (us:=vs.take 60) rfl hD' (by rw[List.length_take];omega)
   (λr ys st xs=>∃n1 n2,IntsAre ys n1/\IntsAre r n2/\n1++n2=ns.take 60/\st=wA++[.fz]) ⟨[],ns.take 60,.nil,l9 60 hi,rfl,rfl⟩ ?_ ?_ ?_
  ·rintro r ys st xs ⟨a,b,_,_,_,rfl⟩
   rfl
  ·intro v r ys st xs aL h4 tk4 G' zz e4 c z3 n4 hc nd4 Q' E' k1 Cb;refine kS zz λm1 m2 i1 i2 e12 y5=>?_;clear zz;subst y5
   cases i2 with
   |cons m t i2=>
   rename_i m2
   have n5:Now w G' aY ⟨L.a,L.cl,some c⟩ (("cell",.int m)::AM) (wA++[.fz]) mm (z3++xs) aL h4:=Mine.L.Now.as n4 λy z hy=>by
    have hy':(match seq "cell" y with|true=>some (SV.int m)|false=>lk AM y)=some z:=hy
    cases hs:seq "cell" y with
    |true=>
     rw[hs] at hy'
     replace hy':=oS hy';subst hy'
     have:=n4.V y (.lit (.int m t)) (by
      show(match seq "cell" y with|true=>some (SV.lit (.int m t))|false=>lk AM y)=_
      rw[hs])
     refine b7 this λu h1 h2=>?_;clear this
     exact⟨u,h1,t,h2⟩
    |false=>rw[hs] at hy';exact b5 hy'
   rw[EE]
   refine Call_ ((I0 w).Eq _ _ _ _ Cb (cP (aB2 _ m fa cdv k)) n5 λu6 aN h6 tk6 x6 n6 hv6=>?_)
   obtain rfl:u6=.type "int":=hv6
   refine PyProof.Rows.callWith_type1 (args_cons ?_)
   refine(I0 w).E _ _ _ _ Cb (cP (aB3 _ m fa cdv k)) n6 λv7 st7 u7 aO h7 tk7 af x7 n7 hv7=>args_nil ?_
   refine pI af λe1 e2=>?_;clear af;rw[e1] at hv7;rw[e2] at n7
   obtain⟨t7,rfl⟩:=hv7
   refine PySem.call_int_int ?_
   exact k1 _ _ xs aO _ h7 tk7 ⟨m1++[m],m2,sX m t7 i1,i2,by rw[bB];exact e12,rfl⟩ ((cM x7 n6.R n7.R).trans ((cM x6 n5.R n6.R).trans e4)) n7 nd4
  ·intro ys st xs aL h4 tk4 D4 zz e4 n4 nd4;refine kS zz λm1 m2 i1 i2 e12 y5=>?_;clear zz;subst y5
   have hm2:m2=[]:=by cases i2;rfl
   replace i2:=hm2▸i2;replace e12:=hm2▸e12
   rw[bQ] at e12
   replace i1:=e12▸i1
   have hys:ys.length<=60:=by rw[intsAre_len i1,List.length_take];omega
   refine gA (fn:=b4 fa cdv (k+60)) (x:="cells") ac C.hk hL (s:={s0 with heap:=h4,toks:=tk4}) n4 (v:=.obj 4) (u:=.ref D4) ⟨D4,?_,rfl⟩ (aT:=W9 ((vs.take 60).map .lit) (ys.map .lit)) (loc':=kN ax) (by kernel_rfl) λmm5 aM h5 tk5 x5 n5=>?_
   ·have l4:(adr (aJ++[(D,listOf (vs.take 60).toArray 0)])).length=4:=by simp only[adr,bF];exact n3.R.len
    rw[e4,bV (by omega),l4]
    rfl
   ·have n6:=tJ n5 (π:=[0,1,2,4]) (by kernel_rfl) (by kernel_rfl)
    have n7:Now w G aY L (fJ (adr aM) [0,1,2,4] (kN ax)) [.cell none,.cell none,.cell (some (.obj 3)),.list ((ys.map SV.lit).map (cD (adr aM) [0,1,2,4]))] mm5 _ _ h5:=n6
    rw[cY] at n7
    have n8:=Now.weak n7 (i:=3) (so:=.list (ys.map .lit)) (so':=.listB 60 ((List.take 60 ns).map .int)) rfl (λρ a o h=>by
     refine iJ h λus q h1 h2=>?_;clear h
     obtain rfl:=o7 h1
     refine⟨⟨us,q,uN i1,h2⟩,?_⟩
     rw[bF,List.length_take]
     omega)
    have n9:=n8.reloc (loc':=dO cN 0) λy z hy=>by
     have h1:fJ (adr aM) [0,1,2,4] (kN ax)=dO cN 0++([("script",.lit (.ref ax))]:Loc):=rfl
     rw[h1,s8,hy]
    refine kk mm5 _ _ h5 tk5 n9 ?_
    rw[adr,bH,bZ]
    refine⟨nd4,gD n5.R.nd,λa ha b hb=>?_⟩
    refine b7 (bY.mp ha) λp' hp z1=>?_;subst z1
    refine b7 (bY.mp hb) λq' hq z1=>?_;subst z1
    exact n5.off p' hp q' (mem_minus.mp hq).1
 ·unfold swapsWith
  have hky:((b4 fa cdv (k+60)).env L).kindOf "cells"=some .cell:=by rw[Fn.env0 ac];rw[dH] at hcan;exact hcan
  simp only[hky]
  rw[show(some NameKind.cell==some NameKind.local)=false from rfl]
  simp
end
noncomputable def T0:List Nat:=[0,1,2,3,30,29,32,31,33,34,35,141,140,47,68,67,95,94,138,137,142,144]
def lfS (ρ:List Addr) (π:List Nat) (ns:List Str) (y:Flo×List SO×Loc):Option Lf:=match gN y.2.1 π&&s9 y.2.2 with
 |true=>some ⟨y.1,gO ρ y.2.1 π,[],ns.map (lk (fJ ρ π y.2.2))⟩
 |false=>none
noncomputable def suT (ρ:List Addr):Value:=.ref (ρ.getD 38 0)
def suS (ρ:List Addr) (ns:List Int):LS:={wd:=none,cells:=ns,sec:=suT ρ,ga:=.ref (ρ.getD 36 0),secs:=[],nms:=[],eqs:=.n,told:=[]}
def ND (ρ:List Addr) (ns:List Int):List SO:=((jO (suS ρ ns) (suT ρ) .n).sT.set 20 (.list [])).set 3 (.listB 60 ((ns.map SV.int).map (cD ρ T0)))
theorem rSU (ρ:List Addr) (ns:List Int) (fa:Addr) (cdv:Value) (k:Nat):cX (lfS ρ T0 tN7) (E0.S (b4 fa cdv (k+60)) (st0 (ns.map .int)) (dO cN 0) [lS 1,lS 2,lS 3,lS 4])=.ret (some ⟨.next,ND ρ ns,[],tV7.map some⟩):=by kernel_rfl
theorem wQ:lawD.body=[lS 0,lS 1,lS 2,lS 3,lS 4,vT,DN]:=by kernel_rfl
theorem KY {x:Str} {v:SV}:∀{ns:List Str} {vs:List SV},ns.map (lk loc)=vs.map some->lk (ns.zip vs) x=some v->lk loc x=some v
 |[],_,_,h=>by simp[lk] at h
 |_::_,[],h,_=>by exact xA h.symm
 |y::r,u::t,h,hx=>by
  rw[bL,bL] at h
  obtain⟨h1,h2⟩:=List.cons.inj h
  have hx':(match seq y x with|true=>some u|false=>lk (r.zip t) x)=some v:=hx
  cases g:seq y x with
  |true=>
   rw[g] at hx'
   replace hx':=oS hx';subst hx'
   have:=dI g
   subst this
   exact h1
  |false=>
   rw[g] at hx'
   exact KY h2 hx'
section
variable {w:World}
theorem MZ {ih:Ih} (I:IhOk w rw1.prog ih)
  (C:Fx w fn A outer aZ base aY L p loose aC mg mb) (ac:fn.cs=none) {b:List Stmt} (PE:PassesOwn (model rw1.prog w) A (fn.env L) E)
  (n:Now w G aY L loc st mm X aA s.heap) (ae:(adr X).Nodup) {π:List Nat} {ns:List Str} {st1:List Addr->List SO}
  (run:∀ρ,cX (lfS ρ π ns) (ih.S fn st loc b)=.ret (some ⟨.next,st1 ρ,[],vs.map some⟩))
  (kk:∀ρ aS aV aB h' aU,Now w G aY L (ns.zip vs) (st1 ρ) aV aS aB h'->(adr aS).Nodup->Q .next {s with heap:=h',toks:=aU}):
  wpAny (model rw1.prog w) A (execs b (fn.env L)) Q E s:=by
 refine I.S fn st loc b C ac (gG (f:=λρ=>lfS ρ π ns) (P:=λρ z=>z=some (⟨.next,st1 ρ,[],vs.map some⟩:Lf)) [] λρ=>by rw[run ρ];exact rfl) PE n λf aT loc' fl aV aB h' aU hlf x n' hf=>?_
 have h1:=hlf (adr aB)
 unfold lfS at h1
 split at h1
 ·rename_i ok
  simp only[bG] at ok
  injection h1 with h1
  injection h1 with e1 e2 e3 e4
  simp only at e1
  rw[e1] at hlf;rw[e1] at hf;rw[e1] at e2;rw[e1] at e4
  cases hf
  have n2:=tJ n' ok.1 ok.2
  simp only at e2 e4
  rw[e2] at n2
  refine kk (adr aB) _ aV _ h' aU (n2.reloc λy z hy=>KY e4 hy) ?_
  rw[adr,bH,bZ]
  refine⟨ae,gD n'.R.nd,λa ha b hb=>?_⟩
  refine b7 (bY.mp ha) λp' hp z1=>?_;subst z1
  refine b7 (bY.mp hb) λq' hq z1=>?_;subst z1
  exact n'.off p' hp q' (mem_minus.mp hq).1
 ·first|exact b5 h1|cases h1
theorem A8 {fa:Addr} {cdv:Value}
  (C:Fx w (b4 fa cdv (k+60)) A outer aZ base aY L p loose aC mg mb) {s0:Shared} {ns:List Int} (PE:PassesOwn (model rw1.prog w) A ((b4 fa cdv (k+60)).env L) E)
  (n:Now w G aY L (dO cN 0) (st0 (ns.map .int)) mm X aA s0.heap) (ae:(adr X).Nodup)
  (kk:∀s t aV aS aB h' aU,Now w G aY L (dA []) (jO s t .n).sT aV aS aB h'->(adr aS).Nodup->tZ w t [] 0 (jO s t .n).sT aS->Q .next {s0 with heap:=h',toks:=aU}):
  wpAny (model rw1.prog w) A (execs [lS 1,lS 2,lS 3,lS 4] ((b4 fa cdv (k+60)).env L)) Q E s0:=by
 refine MZ (ih:=E0) (I0 w) C rfl (s:=s0) (loc:=dO cN 0) (st:=st0 (ns.map .int)) (b:=[lS 1,lS 2,lS 3,lS 4]) PE n ae (π:=T0) (ns:=tN7) (st1:=λρ=>ND ρ ns) (vs:=tV7) (λρ=>rSU ρ ns fa cdv k) λρ xs3 mm3 aK h3 tk3 n3 nd3=>?_
 have e5:ND ρ ns=(jO (suS ρ ns) (suT ρ) .n).sT.set 20 (.list []):=by
  unfold ND
  rw[sD]
  rfl
 rw[e5] at n3
 have n4:=Now.weak n3 (i:=20) (so:=.list []) (so':=.listB 100 []) rfl (λρ a o h=>⟨h,Nat.zero_le _⟩)
 have n5:Now w G aY L (dA []) (jO (suS ρ ns) (suT ρ) .n).sT mm3 xs3 aK h3:=n4
 exact kk _ _ mm3 xs3 aK h3 tk3 n5 nd3 ⟨suS ρ ns,.n,λ_=>[],rfl,Hd.nil,λ_=>Nat.zero_le _,Nat.zero_le _,λ_ h=>by cases h⟩
theorem GO {fa:Addr} {cdv:Value} {k:Nat}
  (C:Fx w (b4 fa cdv (k+60)) A [] aZ aY aY L p loose aC mg mb) {s0:Shared} {ax:Addr} {vs:List Value} {ns:List Int} (PE:PassesOwn (model rw1.prog w) A ((b4 fa cdv (k+60)).env L) E)
  (n:Now w G aY L (kN ax) wA mm X aA s0.heap) (ae:(adr X).Nodup) (hl:aY.IsList ax vs.toArray) (hi:IntsAre vs ns) (hlen:vs.length<=1000)
  (kk:∀aT aV aS aB h' aU,Now w G aY L (dA []) aT aV aS aB h'->Q (.ret (.bool true)) {s0 with heap:=h',toks:=aU}):
  wpAny (model rw1.prog w) A (execs lawD.body ((b4 fa cdv (k+60)).env L)) Q E s0:=by
 rw[wQ]
 refine wpAny_execs_cons (A5 C n ae hl hi hlen λaw xs1 aI h1 aW n1 nd1=>?_)
 show wpAny _ _ (execs ([lS 1,lS 2,lS 3,lS 4]++[vT,DN]) _) _ _ _
 refine dS (A8 C (s0:={s0 with heap:=h1,toks:=aW}) PE n1 nd1 λs t aQ au aJ h2 aX n2 nd2 J2=>?_)
 refine wpAny_execs_cons (GT C C.X C.T (s0:={s0 with heap:=h2,toks:=aX}) PE n2 nd2 J2 λst3 mm3 xs3 aK h3 tk3 J3 e3 n3 nd3=>?_)
 refine wpAny_execs_cons (L9 C (s0:={s0 with heap:=h3,toks:=tk3}) n3 J3 λst4 aL h4 tk4 n4=>?_)
 exact kk st4 mm3 xs3 aL h4 tk4 n4
end
theorem iH:dM lawD.scope.names=cN:=by kernel_rfl
theorem GR:lawD.scope.kind=.function:=by kernel_rfl
theorem A6:(dM lawD.scope.names).Nodup:=by rw[iH];decide +kernel
theorem wS:lawD.scope.names.lookup ("script":Str)=some .local:=by kernel_rfl
theorem law_frame {s₁:Shared} (KX:(K w.params).In s₁.heap) (T:Top p loose aC mg mb s₁.heap) (B:Below callerA s₁.heap [] s₁.heap)
  {fa:Addr} {cdv:Value} {binds:List (Str×Value)} {ax:Addr} {vs:List Value} {ns:List Int} (hb:binds=[(("script":Str),.ref ax)]) (hl:s₁.heap.IsList ax vs.toArray) (hi:IntsAre vs ns) (hlen:vs.length<=1000) {h₁:Heap} {tk₁:Nat} {cells:List (Addr×Obj)}
  (F:Fr s₁.heap s₁.heap.objs.size h₁ (bindL (envOfC lawD.name lawD.scope s₁.heap.objs.size fa cdv).kindOf binds λ_=>none)) (N:News s₁.heap s₁.heap.objs.size h₁ cells)
  (CA:CellsAre (bindC (envOfC lawD.name lawD.scope s₁.heap.objs.size fa cdv).kindOf binds λ_=>none) (cellsFrom (s₁.heap.objs.size+1) lawD.scope.names []) cells) (PE:PassesOwn (model rw1.prog w) (callerA.deeper (envOfC lawD.name lawD.scope s₁.heap.objs.size fa cdv)) (envOfC lawD.name lawD.scope s₁.heap.objs.size fa cdv) E)
  (kk:∀h' aU,(∀b o,s₁.heap.get? b=some o->h'.get? b=some o)->Q (.ret (.bool true)) {s₁ with heap:=h',toks:=aU}):
  wpAny (model rw1.prog w) (callerA.deeper (envOfC lawD.name lawD.scope s₁.heap.objs.size fa cdv)) (execs lawD.body (envOfC lawD.name lawD.scope s₁.heap.objs.size fa cdv)) Q E {s₁ with heap:=h₁,toks:=tk₁}:=by
 rw[hb] at F;rw[hb] at CA
 have hk2:∀y∈[(("script":Str),Value.ref ax)],(envOfC lawD.name lawD.scope s₁.heap.objs.size fa cdv).kindOf y.1=some .local:=λy hy=>by
  rw[bo.mp hy]
  exact wS
 rw[jS hk2] at CA
 have hfst:(cellsFrom (s₁.heap.objs.size+1) lawD.scope.names []).map (·.1)=dM lawD.scope.names:=fY _ _ _ _ _ rfl
 obtain⟨s1,s2⟩:=fZ (lo:=s₁.heap.objs.size+1) lawD.scope.names (s₁.heap.objs.size+1) [] (Nat.le_refl _) (λ_ h=>nomatch h) List.nodup_nil
 obtain⟨R1,ce,x1,cv⟩:=rK (w:=w) (G:=λ_=>default) (λ_=>rfl) CA (st:=[]) (aA:=[]) ⟨rfl,List.nodup_nil,λi so h=>by exact b5 h⟩ (λq hq=>by cases hq) s2
 have hcellNames:((cellsFrom (s₁.heap.objs.size+1) lawD.scope.names []).map λ_=>SO.cell none)=(dM lawD.scope.names).map λ_=>SO.cell none:=by
  rw[<-hfst,List.map_map];rfl
 rw[hcellNames,iH] at R1
 rw[hfst,iH] at cv
 have C:Fx w (b4 fa cdv (0+60)) (callerA.deeper (envOfC lawD.name lawD.scope s₁.heap.objs.size fa cdv)) [] callerA s₁.heap s₁.heap ⟨s₁.heap.objs.size,cellsFrom (s₁.heap.objs.size+1) lawD.scope.names [],none⟩ p loose aC mg mb:=
  ⟨B,KX,T,rfl,rfl,GR,rfl,bA (by kernel_rfl),bA (by kernel_rfl)⟩
 have n:Now w (λ_=>default) s₁.heap ⟨s₁.heap.objs.size,cellsFrom (s₁.heap.objs.size+1) lawD.scope.names [],none⟩ (kN ax) wA (bindL (envOfC lawD.name lawD.scope s₁.heap.objs.size fa cdv).kindOf [(("script":Str),Value.ref ax)] λ_=>none) [] cells h₁:=by
  refine⟨F,N,(λ_ h=>by exact b5 h),(λp hp=>by cases hp),R1,λx v hx=>?_⟩
  unfold kN at hx
  rw[s8] at hx
  cases g1:lk (dO cN 0) x with
  |some v1=>
   rw[g1] at hx
   replace hx:=oS hx;subst hx
   refine fP (cv x _ g1) λi a h1 h2 h3=>?_
   subst h1
   exact⟨a,jC (l:=cellsFrom (s₁.heap.objs.size+1) lawD.scope.names []) (by rw[hfst];exact A6) h2,h3⟩
  |none=>
   rw[g1] at hx
   have hx':(match seq "script" x with|true=>some (SV.lit (.ref ax))|false=>none)=some v:=hx
   cases hs:seq "script" x with
   |false=>rw[hs] at hx';exact b5 hx'
   |true=>
    rw[hs] at hx'
    replace hx':=oS hx';subst hx'
    have:=dI hs
    subst this
    refine jQ ⟨.ref ax,?_,rfl⟩
    show bindL _ _ _ _=some _
    rw[jT hk2]
    rfl
 exact GO (k:=0) C (s0:={s₁ with heap:=h₁,toks:=tk₁}) PE n List.nodup_nil hl hi hlen λaT aV aS aB h' aU n'=>kk h' aU n'.F.keep
end Mine.L
end
section
open PySem PySem.W PyProof.Rows PySem.Calls
namespace Mine
theorem GQ {s₀ s₁:Shared} {args:List WData} {h':Heap} {aU:Nat} (hg:s₁.gens=#[]) (hk:∀b o,s₁.heap.get? b=some o->h'.get? b=some o) (hp:rw1.row.claim.post args (.bool true) args=true) (hr:∀cls,rw1.row.claim.raises args cls=false):
  GoodW rw1.row.claim (classAt s₀.heap) (ExcName.means s₀.heap) args s₁ (.ok (.ret (.bool true))) {s₁ with heap:=h',toks:=aU}:=
 ⟨.inl ⟨_,_,[],rfl,hr,ReadsW.bool true,hp,λ_=>⟨List.nodup_nil,λ_ hm=>(nomatch hm)⟩⟩,hk,rfl,hg⟩
theorem aCt:WalkO qV mX (XL qV []) (InK K) rw1.row.toRowW lawD [] (λf vs=>PySem.call f vs):=by
 intro w s₀ s₁ mg mb G Y fa o pm cd doc dV kV ho hd hcd hD hmg hg args vals as hpre hlay hrd hwl hlo
 have KX:(K w.params).In s₁.heap:=Y
 have X:=(Ground.X G).1
 have V:=(Ground.X G).2
 refine Ground.open G ?_
 intro T B D TE TW
 try (refine guard_noD D (by decide +kernel) ?_;clear D)
 refine q21 (bmod_of_top T) λ_ _ M=>?_
 have TA:=at_of_top T
 refine iJ (based_of_top T rfl hmg ho hd) λ_ _ he B0=>?_
 have he':cd=_:=he
 rw[he'] at hd;rw[he'] at hcd;rw[he'] at he
 clear he hmg
 wrow_args hpre hlay hrd hwl hlo
 all_goals (
  first|refine callC_kw (enter_call ?_)|refine enter_call ?_|refine callC_kw (enter_callW ?_)|refine enter_callW ?_|w_how
  w_top on
  try refine codeAny_mono ?_ (λ_ _ g=>GoodW.toG g)
  have K0:=below_caller (Top.heap T)
  w_call any ho hd hcd hD T F
  clear hd TA)
 rename_i wa wb w10 w9 ns hs hlay0 hL1 hr1 hl2 w7 w6 ax vs w3 hL ra w1 r0 hI hr hcond' hcond0 h₁ tk₁ w2 w1' w0 hw2 hw1 hw0 N0 X0
 have hlen:vs.length<=1000:=by
  rw[Mine.L.intsAre_len hI]
  omega
 exact Mine.L.law_frame (fa:=fa) (cdv:=.ref w10) (ax:=ax) (vs:=vs) (ns:=ns) KX T K0 (by kernel_rfl) hL hI hlen F N0 X0 PassesOwn.leaving λh' aU hk=>GQ hg hk (by kernel_rfl) (λ_=>rfl)
theorem final:rw1.Holds:=top aCt
end Mine
end
end
theorem PySem.Challenge.cw_pb0429_01_holds : PySem.Challenge.rw_pb0429_01.Holds :=
 Mine.final
