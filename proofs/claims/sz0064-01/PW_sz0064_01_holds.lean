import PyProof.Rows.All
import Wide.All
import OpenK.AllK
import Wide.FinOn
import Lean
import PySem.Challenge.RW_sz0064_01
open PySem PySem.W PyProof.Rows
set_option Elab.async false
set_option maxRecDepth 100000
set_option compiler.extract_closed false
set_option maxHeartbeats 0
namespace Hd
noncomputable abbrev pw : Program := PySem.Challenge.pw_sz0064_01
noncomputable abbrev r (a : Nat) : Value := .ref a
noncomputable abbrev s (x : String) (t : Nat) : Value := .str (Str.ofString x) t
noncomputable abbrev i (n : Int) (t : Nat) : Value := .int n t
noncomputable abbrev T (x : String) : Value := .type x
noncomputable abbrev B (x : String) : Value := .builtin x
noncomputable abbrev nn : Value := .none
noncomputable abbrev tt : Value := .bool true
noncomputable abbrev ff : Value := .bool false
noncomputable abbrev e : BT := .nil
noncomputable abbrev n (v : Obj) (l r : BT) : BT := .node v l r
noncomputable abbrev fA (l : List Value) : Array Value := l.toArray
noncomputable abbrev dA (l : List DictEntry) : Array DictEntry := l.toArray
noncomputable abbrev k (P : Params) (x : String) (t : Nat) (v : Value) : DictEntry := ⟨PyData.keyHash P (Str.ofString x), .str (Str.ofString x) t, v⟩
noncomputable def at_ (j : Nat) : Stmt := match pw.main.body.drop j with | x :: _ => x | [] => .Pass default
noncomputable def in_ (j l : Nat) : Stmt := match at_ j with | .ClassDef _ _ _ b _ _ _ _ _ _ _ => (match b.drop l with | x :: _ => x | [] => .Pass default) | x => x
noncomputable def tnv : List String → Nat → List Value
  | [], _ => []
  | x :: l, t => s x t :: tnv l (t + 1)
noncomputable def ftv : List Nat → List Value
  | a :: b :: c :: l => .int (.ofNat a) 0 :: .int (.ofNat b) 0 :: .ref c :: ftv l
  | _ => []
noncomputable abbrev tp (l : List Value) : Obj := ⟨.type "tuple", none, .seq l.toArray 0, #[]⟩
noncomputable abbrev te : Obj := tp []
noncomputable abbrev tn (l : List String) (t : Nat) : Obj := tp (tnv l t)
noncomputable abbrev fl (l : List Value) : Obj := ⟨.none, none, .fields l.toArray, #[]⟩
noncomputable abbrev ft (l : List Nat) : Obj := fl (ftv l)
noncomputable abbrev fo (c : Value) (f : FuncData) : Obj := ⟨c, none, .func f, #[]⟩
noncomputable abbrev co (nm qn : String) (ln ac fg : Int) (b t u : Nat) : Obj := ⟨.type "code", none, .fields (List.toArray [s nm t, s qn (t + 1), s "/claim/cut.py" (t + 2), i ln 0, i ac 0, i 0 0, i 0 0, i fg 0, r b, tt, i 0 181, r (b + 1), nn, r (b + 2), r (b + 3), r (b + 4), i 0 u, i ln 0, s "/claim/cut.py" (u + 1)]), #[]⟩
noncomputable abbrev cl (nm qn : String) (ln ac fg : Int) (b t u : Nat) : Obj := ⟨.type "code", none, .fields (List.toArray [s nm t, s qn (t + 1), s "/claim/cut.py" (t + 2), i ln 0, i ac 0, i 0 0, i 0 0, i fg 0, r b, ff, i 0 181, r (b + 1), nn, nn, nn, nn, i 0 u, i ln 0, s "/claim/cut.py" (u + 1)]), #[]⟩
noncomputable def fd (st : Stmt) (qn : String) (gl : Nat) (df kd dc pm cv ct : Value) (bl : Nat) : FuncData := match st with
  | .FunctionDef nm a b _ _ _ sc _ _ _ => { name := nm, qualname := Str.ofString qn, params := a, body := .stmts b, scope := sc, globals := gl, closure := [], defaults := df, kwdefaults := kd, doc := dc, pyModule := pm, annotations := none, code := cv, closureTuple := ct, builtins := bl }
  | _ => default
noncomputable abbrev cd (nm : String) (bs mro : List Value) (ns : Nat) (qn : String) (hd : Bool) (sub : List Value) : ClassData := { name := Str.ofString nm, bases := bs, mro := mro, ns := ns, qualname := Str.ofString qn, hasDict := hd, subclasses := sub }
noncomputable def kf (o : Obj) (j : Nat) : Obj := match o with
  | ⟨c, d, .fields vs, sl⟩ => ⟨c, d, .fields (vs.toList.take j).toArray, sl⟩
  | o => o
noncomputable def putAt : List DictEntry → List (Nat × Value) → List DictEntry
  | l, [] => l
  | l, (a, v) :: c => putAt (l.modify a fun x => ⟨x.hash, x.key, v⟩) c
noncomputable def kd (o : Obj) (j m : Nat) (c : List (Nat × Value)) : Obj := match o with
  | ⟨a, d, .dict es _, sl⟩ => ⟨a, d, .dict (putAt (es.toList.take j) c).toArray m, sl⟩
  | o => o

noncomputable def o0 (P : Params) : Obj := ⟨(T "dict"), none, .dict (dA [(k P "__name__" 1 (s "builtins" 160)), (k P "__doc__" 2 (B "builtins.__doc__:str#opaque")), (k P "__package__" 3 (B "builtins.__package__:str#opaque")), (k P "__loader__" 4 (B "builtins.__loader__:shared#opaque")), (k P "__spec__" 5 (B "builtins.__spec__#opaque")), (k P "__build_class__" 6 (B "__build_class__")), (k P "__import__" 7 (B "__import__")), (k P "abs" 8 (B "abs")), (k P "all" 9 (B "all")), (k P "any" 10 (B "any")), (k P "ascii" 11 (B "ascii")), (k P "bin" 12 (B "bin")), (k P "breakpoint" 13 (B "breakpoint")), (k P "callable" 14 (B "callable")), (k P "chr" 15 (B "chr")), (k P "compile" 16 (B "compile")), (k P "delattr" 17 (B "delattr")), (k P "dir" 18 (B "dir")), (k P "divmod" 19 (B "divmod")), (k P "eval" 20 (B "eval")), (k P "exec" 21 (B "exec")), (k P "format" 22 (B "format")), (k P "getattr" 23 (B "getattr")), (k P "globals" 24 (B "globals")), (k P "hasattr" 25 (B "hasattr")), (k P "hash" 26 (B "hash")), (k P "hex" 27 (B "hex")), (k P "id" 28 (B "id")), (k P "input" 29 (B "input")), (k P "isinstance" 30 (B "isinstance")), (k P "issubclass" 31 (B "issubclass")), (k P "iter" 32 (B "iter")), (k P "aiter" 33 (B "aiter")), (k P "len" 34 (B "len")), (k P "locals" 35 (B "locals")), (k P "max" 36 (B "max")), (k P "min" 37 (B "min")), (k P "next" 38 (B "next")), (k P "anext" 39 (B "anext")), (k P "oct" 40 (B "oct")), (k P "ord" 41 (B "ord")), (k P "pow" 42 (B "pow")), (k P "print" 43 (B "print")), (k P "repr" 44 (B "repr")), (k P "round" 45 (B "round")), (k P "setattr" 46 (B "setattr")), (k P "sorted" 47 (B "sorted")), (k P "sum" 48 (B "sum")), (k P "vars" 49 (B "vars")), (k P "None" 50 nn), (k P "Ellipsis" 51 .ellipsis), (k P "NotImplemented" 52 .notImplemented), (k P "False" 53 ff), (k P "True" 54 tt), (k P "bool" 55 (T "bool")), (k P "memoryview" 56 (T "memoryview")), (k P "bytearray" 57 (T "bytearray")), (k P "bytes" 58 (T "bytes")), (k P "classmethod" 59 (T "classmethod")), (k P "complex" 60 (T "complex")), (k P "dict" 61 (T "dict")), (k P "enumerate" 62 (T "enumerate")), (k P "filter" 63 (T "filter")), (k P "float" 64 (T "float")), (k P "frozenset" 65 (T "frozenset")), (k P "property" 66 (T "property")), (k P "int" 67 (T "int")), (k P "list" 68 (T "list")), (k P "map" 69 (T "map")), (k P "object" 70 (T "object")), (k P "range" 71 (T "range")), (k P "reversed" 72 (T "reversed")), (k P "set" 73 (T "set")), (k P "slice" 74 (T "slice")), (k P "staticmethod" 75 (T "staticmethod")), (k P "str" 76 (T "str")), (k P "super" 77 (T "super")), (k P "tuple" 78 (T "tuple")), (k P "type" 79 (T "type")), (k P "zip" 80 (T "zip")), (k P "__debug__" 81 tt), (k P "BaseException" 82 (T "BaseException")), (k P "BaseExceptionGroup" 83 (T "BaseExceptionGroup")), (k P "Exception" 84 (T "Exception")), (k P "GeneratorExit" 85 (T "GeneratorExit")), (k P "KeyboardInterrupt" 86 (T "KeyboardInterrupt")), (k P "SystemExit" 87 (T "SystemExit")), (k P "ArithmeticError" 88 (T "ArithmeticError")), (k P "AssertionError" 89 (T "AssertionError")), (k P "AttributeError" 90 (T "AttributeError")), (k P "BufferError" 91 (T "BufferError")), (k P "EOFError" 92 (T "EOFError")), (k P "ImportError" 93 (T "ImportError")), (k P "LookupError" 94 (T "LookupError")), (k P "MemoryError" 95 (T "MemoryError")), (k P "NameError" 96 (T "NameError")), (k P "OSError" 97 (T "OSError")), (k P "ReferenceError" 98 (T "ReferenceError")), (k P "RuntimeError" 99 (T "RuntimeError")), (k P "StopAsyncIteration" 100 (T "StopAsyncIteration")), (k P "StopIteration" 101 (T "StopIteration")), (k P "SyntaxError" 102 (T "SyntaxError")), (k P "SystemError" 103 (T "SystemError")), (k P "TypeError" 104 (T "TypeError")), (k P "ValueError" 105 (T "ValueError")), (k P "Warning" 106 (T "Warning")), (k P "FloatingPointError" 107 (T "FloatingPointError")), (k P "OverflowError" 108 (T "OverflowError")), (k P "ZeroDivisionError" 109 (T "ZeroDivisionError")), (k P "BytesWarning" 110 (T "BytesWarning")), (k P "DeprecationWarning" 111 (T "DeprecationWarning")), (k P "EncodingWarning" 112 (T "EncodingWarning")), (k P "FutureWarning" 113 (T "FutureWarning")), (k P "ImportWarning" 114 (T "ImportWarning")), (k P "PendingDeprecationWarning" 115 (T "PendingDeprecationWarning")), (k P "ResourceWarning" 116 (T "ResourceWarning")), (k P "RuntimeWarning" 117 (T "RuntimeWarning")), (k P "SyntaxWarning" 118 (T "SyntaxWarning")), (k P "UnicodeWarning" 119 (T "UnicodeWarning")), (k P "UserWarning" 120 (T "UserWarning")), (k P "BlockingIOError" 121 (T "BlockingIOError")), (k P "ChildProcessError" 122 (T "ChildProcessError")), (k P "ConnectionError" 123 (T "ConnectionError")), (k P "FileExistsError" 124 (T "FileExistsError")), (k P "FileNotFoundError" 125 (T "FileNotFoundError")), (k P "InterruptedError" 126 (T "InterruptedError")), (k P "IsADirectoryError" 127 (T "IsADirectoryError")), (k P "NotADirectoryError" 128 (T "NotADirectoryError")), (k P "PermissionError" 129 (T "PermissionError")), (k P "ProcessLookupError" 130 (T "ProcessLookupError")), (k P "TimeoutError" 131 (T "TimeoutError")), (k P "IndentationError" 132 (T "IndentationError")), (k P "_IncompleteInputError" 133 (T "_IncompleteInputError")), (k P "IndexError" 134 (T "IndexError")), (k P "KeyError" 135 (T "KeyError")), (k P "ModuleNotFoundError" 136 (T "ModuleNotFoundError")), (k P "NotImplementedError" 137 (T "NotImplementedError")), (k P "PythonFinalizationError" 138 (T "PythonFinalizationError")), (k P "RecursionError" 139 (T "RecursionError")), (k P "UnboundLocalError" 140 (T "UnboundLocalError")), (k P "UnicodeError" 141 (T "UnicodeError")), (k P "BrokenPipeError" 142 (T "BrokenPipeError")), (k P "ConnectionAbortedError" 143 (T "ConnectionAbortedError")), (k P "ConnectionRefusedError" 144 (T "ConnectionRefusedError")), (k P "ConnectionResetError" 145 (T "ConnectionResetError")), (k P "TabError" 146 (T "TabError")), (k P "UnicodeDecodeError" 147 (T "UnicodeDecodeError")), (k P "UnicodeEncodeError" 148 (T "UnicodeEncodeError")), (k P "UnicodeTranslateError" 149 (T "UnicodeTranslateError")), (k P "ExceptionGroup" 150 (T "ExceptionGroup")), (k P "EnvironmentError" 151 (T "OSError")), (k P "IOError" 152 (T "OSError")), (k P "open" 153 (B "open")), (k P "quit" 154 (B "builtins.quit#opaque")), (k P "exit" 155 (B "builtins.exit#opaque")), (k P "copyright" 156 (B "builtins.copyright#opaque")), (k P "credits" 157 (B "builtins.credits#opaque")), (k P "license" 158 (B "builtins.license#opaque")), (k P "help" 159 (B "builtins.help#opaque"))]) 159, #[]⟩
noncomputable def o1 (P : Params) : Obj := ⟨(T "dict"), none, .dict (dA [(k P "builtins" 162 (r 4)), (k P "__main__" 163 (r 5))]) 2, #[]⟩
noncomputable def o2 (P : Params) : Obj := ⟨nn, none, .dict (dA [(k P "type.__subclasses__.Exception.0" 233 (i 38 0)), (k P "type.__subclasses__.Exception.n" 234 (i 1 0))]) 2, #[]⟩
noncomputable def o3 (P : Params) : Obj := ⟨(T "dict"), none, .dict (dA [(k P "__name__" 165 (s "law_sz0064_01" 2320)), (k P "__doc__" 166 nn), (k P "__package__" 167 nn), (k P "__loader__" 168 (B "__main__.__loader__#opaque")), (k P "__spec__" 169 nn), (k P "__annotations__" 170 (r 6)), (k P "__builtins__" 171 (r 4)), (k P "__file__" 173 (s "/claim/cut.py" 172)), (k P "__cached__" 174 nn), (k P "_wall" 193 (r 21)), (k P "LF_NOTYPE" 197 (i 1 196)), (k P "LF_ENUM" 199 (i 12 198)), (k P "W_EMPTY" 201 (i 2 200)), (k P "W_PLACE" 203 (i 4 202)), (k P "W_KIND" 205 (i 5 204)), (k P "RuneError" 236 (r 38)), (k P "BadKind" 252 (r 51)), (k P "LoadFault" 268 (r 63)), (k P "LeftOut" 284 (r 75)), (k P "VOID" 288 (i 0 287)), (k P "BOOL" 290 (i 1 289)), (k P "CHAR" 292 (i 2 291)), (k P "I1" 294 (i 3 293)), (k P "U1" 296 (i 4 295)), (k P "I2" 298 (i 5 297)), (k P "U2" 300 (i 6 299)), (k P "I4" 302 (i 7 301)), (k P "U4" 304 (i 8 303)), (k P "I8" 306 (i 9 305)), (k P "U8" 308 (i 10 307)), (k P "NINT" 310 (i 11 309)), (k P "OBJECT" 312 (i 12 311)), (k P "STRING" 314 (i 13 313)), (k P "NULLK" 316 (i 14 315)), (k P "PRIM_END" 318 (i 16 317)), (k P "R_PRIM" 320 (i 1 319)), (k P "R_CLASS" 322 (i 2 321)), (k P "R_VALUE" 324 (i 3 323)), (k P "R_ARRAY" 326 (i 4 325)), (k P "R_BYREF" 328 (i 5 327)), (k P "R_VAR" 330 (i 6 329)), (k P "R_MVAR" 332 (i 7 331)), (k P "R_BOXED" 334 (i 8 333)), (k P "R_ROREF" 336 (i 9 335)), (k P "R_FTN" 338 (i 10 337)), (k P "R_RAW" 340 (i 11 339)), (k P "DEEPEST_KIND" 342 (i 24 341)), (k P "HEAVIEST_KIND" 344 (i 4096 343)), (k P "PRIM_TID" 373 (r 78)), (k P "TID_PRIM" 402 (r 79)), (k P "ARRAY_TID" 404 (i 5 403)), (k P "NULLABLE_TID" 406 (i 8 405)), (k P "INT_RANGES" 445 (r 80)), (k P "KindTable" 502 (r 122)), (k P "inner_kinds" 510 (r 133)), (k P "row_level" 517 (r 140)), (k P "row_length" 524 (r 147)), (k P "check_kind_row" 534 (r 154)), (k P "check_named" 542 (r 161)), (k P "check_args" 551 (r 168)), (k P "may_stand" 560 (r 175)), (k P "kind_sort" 568 (r 182)), (k P "tid_of" 577 (r 189)), (k P "args_of" 586 (r 196)), (k P "is_value" 594 (r 203)), (k P "is_var" 603 (r 210)), (k P "close" 613 (r 217)), (k P "close_in" 627 (r 224)), (k P "with_inner" 637 (r 231)), (k P "box_of" 645 (r 238)), (k P "pick_arg" 654 (r 245)), (k P "int_range" 661 (r 252)), (k P "is_int" 668 (r 259)), (k P "CM_PRIMS" 670 (i 70 669)), (k P "CM_I4_COMPARE" 672 (i 103 671)), (k P "CM_I8_COMPARE" 674 (i 104 673)), (k P "S_ENUM" 678 (i 5 677)), (k P "T_NULLABLE" 680 (i 8 679)), (k P "T_BOOL" 682 (i 9 681)), (k P "T_NULLREF" 684 (i 21 683)), (k P "prim_method" 692 (r 266)), (k P "type_of" 701 (r 273)), (k P "V_I4" 705 (i 1 704)), (k P "V_I8" 707 (i 2 706)), (k P "V_NINT" 709 (i 3 708)), (k P "V_REF" 711 (i 4 710)), (k P "V_STRUCT" 713 (i 5 712)), (k P "V_PLACE" 715 (i 6 714)), (k P "V_FTN" 717 (i 7 716)), (k P "V_TEXT" 719 (i 8 718)), (k P "NULLV" 722 (r 274)), (k P "NO_TAG" 725 (i (-1) 724)), (k P "PL_LOCAL" 727 (i 1 726)), (k P "PL_ARG" 729 (i 2 728)), (k P "PL_HEAP" 731 (i 3 730)), (k P "PL_STATIC" 733 (i 4 732)), (k P "wrap_bits" 741 (r 281)), (k P "wrap32" 748 (r 288)), (k P "wrap64" 755 (r 295)), (k P "plain_kind" 764 (r 302)), (k P "cut_to" 772 (r 309)), (k P "store_as" 782 (r 316)), (k P "tag_of" 790 (r 323)), (k P "tag_of_row" 797 (r 330)), (k P "fits" 807 (r 337)), (k P "get_path" 816 (r 344)), (k P "Item" 855 (r 361)), (k P "CoreEval" 886 (r 382)), (k P "Splits" 915 (r 403)), (k P "Begins" 945 (r 424)), (k P "Calls" 984 (r 452)), (k P "Plot" 1106 (r 529)), (k P "layout_in" 1114 (r 540)), (k P "is_question" 1122 (r 547)), (k P "new_item" 1132 (r 554)), (k P "new_words" 1141 (r 561)), (k P "value_at" 1152 (r 568)), (k P "truth_of" 1161 (r 575)), (k P "number_words" 1169 (r 582)), (k P "compare_of" 1177 (r 589)), (k P "number_at" 1186 (r 596)), (k P "NumberWords" 1222 (r 620)), (k P "NumberSame" 1259 (r 646)), (k P "NumberHash" 1296 (r 672)), (k P "NumberCompare" 1332 (r 698)), (k P "install_ev_prims" 1341 (r 707)), (k P "BareHost" 1428 (r 766)), (k P "FIRST_ADDRESS" 1432 (i 16 1431)), (k P "HEAD_WORDS" 1434 (i 2 1433)), (k P "LEAST_SIZE" 1436 (i 3 1435)), (k P "words_for" 1443 (r 777)), (k P "Thing" 1479 (r 794)), (k P "Heap" 1520 (r 815)), (k P "heap_alloc" 1530 (r 826)), (k P "find_thing" 1543 (r 833)), (k P "slot_at" 1552 (r 840)), (k P "read_slot" 1562 (r 847)), (k P "KEEP_PLACE" 1567 (i (-1) 1566)), (k P "PlaceHost" 1600 (r 864)), (k P "path_of" 1607 (r 875)), (k P "slots_of" 1616 (r 882)), (k P "index_of" 1623 (r 889)), (k P "read_whole" 1633 (r 896)), (k P "read_place" 1642 (r 903)), (k P "JP_STAY" 1647 (i (-2) 1646)), (k P "ST_RUN" 1649 (i 0 1648)), (k P "ST_WRONG" 1651 (i 3 1650)), (k P "NT_VOID" 1654 (i (-1) 1653)), (k P "NT_STAY" 1657 (i (-2) 1656)), (k P "TEXT_NULL" 1659 (s "Object reference not set to an instance of an object." 1658)), (k P "LOST" 1662 (r 904)), (k P "Native" 1692 (r 921)), (k P "Starter" 1741 (r 956)), (k P "KindCloser" 1781 (r 984)), (k P "Tray" 1959 (r 1110)), (k P "note_thrown" 1967 (r 1121)), (k P "tell_wrong" 1978 (r 1128)), (k P "pop_value" 1986 (r 1135)), (k P "bool_value" 1995 (r 1142)), (k P "thing_named" 2003 (r 1149)), (k P "no_object" 2010 (r 1156)), (k P "plain_number" 2018 (r 1163)), (k P "number_text" 2026 (r 1170)), (k P "number_hash" 2034 (r 1177)), (k P "this_number" 2044 (r 1184)), (k P "PrimEquals" 2081 (r 1208)), (k P "PrimHash" 2117 (r 1234)), (k P "OP_RET" 2119 (i 42 2118)), (k P "OP_SUB" 2121 (i 89 2120)), (k P "OP_CGT" 2123 (i 65026 2122)), (k P "OP_CLT" 2125 (i 65028 2124)), (k P "OP_LDARG" 2127 (i 65033 2126)), (k P "compare_rows" 2136 (r 1243)), (k P "Bed" 2265 (r 1316)), (k P "kept_layout" 2273 (r 1325)), (k P "is_struct" 2281 (r 1332)), (k P "is_composed" 2289 (r 1339)), (k P "default_of" 2301 (r 1346)), (k P "default_parts" 2307 (r 1351)), (k P "as_twin" 2319 (r 1358)), (k P "_law_bits" 2328 (r 1365)), (k P "_law_seen" 2336 (r 1372)), (k P "_law_stored" 2344 (r 1379)), (k P "_law_raw" 2353 (r 1386)), (k P "_law_digits" 2361 (r 1393)), (k P "_law_shown" 2369 (r 1400)), (k P "_law_hashed" 2380 (r 1407)), (k P "_law_keep" 2389 (r 1414)), (k P "_law_box" 2401 (r 1421)), (k P "_law_cell" 2419 (r 1428)), (k P "_law_source" 2430 (r 1435)), (k P "_law_words" 2444 (r 1442)), (k P "_law_marks" 2455 (r 1449)), (k P "_law_other" 2470 (r 1456)), (k P "_law_equals" 2484 (r 1463)), (k P "_law_run" 2499 (r 1470)), (k P "_law_compare" 2515 (r 1477)), (k P "_law_ask" 2529 (r 1484)), (k P "law" 2535 (r 1489))]) 199, #[]⟩
noncomputable def o4 (_ : Params) : Obj := ⟨(T "module"), some 0, .plain, #[]⟩
noncomputable def o5 (_ : Params) : Obj := ⟨(T "module"), some 3, .plain, #[]⟩
noncomputable def o6 (_ : Params) : Obj := ⟨(T "dict"), none, .dict (dA []) 0, #[]⟩
noncomputable def o7 (_ : Params) : Obj := te
noncomputable def o8 (_ : Params) : Obj := ft []
noncomputable def o9 (_ : Params) : Obj := ⟨(T "code"), none, .fields (fA [(s "<module>" 176), (s "<module>" 177), (s "/claim/cut.py" 178), (i 1 0), (i 0 0), (i 0 0), (i 0 0), (i 0 0), (r 7), ff, (i 175 0), (r 8), nn, nn, nn, nn, (i 179 0), (i 1 0), (s "/claim/cut.py" 180)]), #[]⟩
noncomputable def o10 (_ : Params) : Obj := ⟨(T "frame"), none, .plain, #[some (r 9), some (r 3), some (r 3), none, some (s "__main__" 164), none, some (r 0)]⟩
noncomputable def o11 (_ : Params) : Obj := te
noncomputable def o12 (_ : Params) : Obj := ft [1, 0, 20, 10, 0, 27, 15, 0, 47, 17, 0, 59, 19, 0, 71, 56, 0, 97, 105, 0, 132, 114, 0, 139, 118, 0, 146, 124, 0, 153, 146, 0, 160, 150, 0, 167, 154, 0, 174, 159, 0, 181, 161, 0, 188, 170, 0, 195, 175, 0, 202, 179, 0, 209, 182, 0, 216, 187, 0, 223, 202, 0, 230, 211, 0, 237, 219, 0, 244, 223, 0, 251, 227, 0, 258, 237, 0, 265, 239, 0, 272, 259, 0, 280, 264, 0, 287, 266, 0, 294, 268, 0, 301, 279, 0, 308, 291, 0, 315, 297, 0, 322, 307, 0, 329, 317, 0, 336, 328, 0, 343, 335, 0, 350, 345, 0, 371, 349, 0, 392, 353, 0, 413, 357, 0, 434, 364, 0, 462, 415, 0, 539, 417, 0, 546, 419, 0, 553, 423, 0, 560, 428, 0, 567, 434, 0, 574, 436, 0, 581, 442, 0, 588, 446, 0, 595, 448, 0, 602, 455, 0, 628, 465, 0, 654, 479, 0, 680, 486, 0, 706, 495, 0, 713, 529, 0, 776, 533, 0, 783, 542, 0, 804, 557, 0, 825, 566, 0, 832, 584, 0, 839, 589, 0, 846, 599, 0, 853, 605, 0, 874, 609, 0, 881, 620, 0, 888, 624, 0, 895, 634, 0, 902, 647, 0, 910, 651, 0, 931, 661, 0, 966, 668, 0, 994, 737, 0, 1120, 741, 0, 1127, 752, 0, 1134, 758, 0, 1141, 762, 0, 1148, 764, 0, 1155, 767, 0, 1162, 773, 0, 1169, 781, 0, 1176, 789, 0, 1183, 801, 0, 1190, 814, 0, 1216, 830, 0, 1242, 833, 0, 1249, 894, 0, 1324, 898, 0, 1331, 900, 0, 1338, 902, 0, 1345, 914, 0, 1350, 923, 0, 1357, 930, 0, 1364, 932, 0, 1371, 936, 0, 1378, 944, 0, 1385, 947, 0, 1392, 955, 0, 1399, 961, 0, 1406, 974, 0, 1413, 976, 0, 1420, 982, 0, 1427, 1004, 0, 1434, 1006, 0, 1441, 1016, 0, 1448, 1021, 0, 1455, 1040, 0, 1462, 1048, 0, 1469, 1069, 0, 1476, 1083, 0, 1483, 1097, 0, 1488]
noncomputable def o13 (_ : Params) : Obj := ⟨(T "code"), none, .fields (fA [(s "<module>" 182), (s "<module>" 183), (s "/claim/cut.py" 184), (i 1 0), (i 0 0), (i 0 0), (i 0 0), (i 0 0), (r 11), ff, (i 181 0), (r 12), nn, nn, nn, nn, (i 185 0), (i 1 0), (s "/claim/cut.py" 186)]), #[]⟩
noncomputable def o14 (_ : Params) : Obj := ⟨(T "frame"), none, .plain, #[some (r 13), some (r 3), some (r 3), none, some (s "__main__" 164), none, some (r 0)]⟩
noncomputable def o15 (_ : Params) : Obj := te
noncomputable def o16 (_ : Params) : Obj := ft []
noncomputable def o17 (_ : Params) : Obj := tn ["k"] 190
noncomputable def o18 (_ : Params) : Obj := te
noncomputable def o19 (_ : Params) : Obj := fo nn (fd (at_ 0) "_wall" 0 nn nn nn nn nn nn 0)
noncomputable def o20 (_ : Params) : Obj := ⟨(T "code"), none, .fields (fA [(s "_wall" 187), (s "_wall" 188), (s "/claim/cut.py" 189), (i 1 0), (i 1 0), (i 0 0), (i 0 0), (i 3 0), (r 15), tt, (i 181 0), (r 16), nn, (r 17), (r 18), (r 19), (i 191 0), (i 1 0), (s "/claim/cut.py" 192)]), #[]⟩
noncomputable def o21 (_ : Params) : Obj := fo (T "function") (fd (at_ 0) "_wall" 3 nn nn nn (s "__main__" 164) (r 20) nn 0)
noncomputable def o22 (_ : Params) : Obj := tp [(T "Exception")]
noncomputable def o23 (_ : Params) : Obj := ⟨(T "builtin_function_or_method"), none, .fields (fA [(B "type.__prepare__"), (T "type")]), #[]⟩
noncomputable def o24 (P : Params) : Obj := ⟨(T "dict"), none, .dict (dA [(k P "__module__" 213 (s "framerune.faults" 194)), (k P "__qualname__" 215 (s "RuneError" 214)), (k P "__firstlineno__" 217 (i 10 216)), (k P "__init__" 226 (r 35)), (k P "__static_attributes__" 229 (r 36))]) 5, #[]⟩
noncomputable def o25 (_ : Params) : Obj := te
noncomputable def o26 (_ : Params) : Obj := ft [12, 4, 34]
noncomputable def o27 (_ : Params) : Obj := ⟨(T "code"), none, .fields (fA [(s "RuneError" 208), (s "RuneError" 209), (s "/claim/cut.py" 210), (i 10 0), (i 0 0), (i 0 0), (i 0 0), (i 0 0), (r 25), ff, (i 181 0), (r 26), nn, nn, nn, nn, (i 211 0), (i 10 0), (s "/claim/cut.py" 212)]), #[]⟩
noncomputable def o28 (_ : Params) : Obj := ⟨(T "frame"), none, .plain, #[some (r 27), some (r 3), some (r 24), none, some (s "framerune.faults" 194), none, some (r 0)]⟩
noncomputable def o29 (_ : Params) : Obj := te
noncomputable def o30 (_ : Params) : Obj := ft []
noncomputable def o31 (_ : Params) : Obj := tn ["self", "code", "at"] 221
noncomputable def o32 (_ : Params) : Obj := te
noncomputable def o33 (_ : Params) : Obj := fo nn (fd (in_ 7 0) "RuneError.__init__" 0 nn nn nn nn nn nn 0)
noncomputable def o34 (_ : Params) : Obj := ⟨(T "code"), none, .fields (fA [(s "__init__" 218), (s "RuneError.__init__" 219), (s "/claim/cut.py" 220), (i 12 0), (i 3 0), (i 0 0), (i 0 0), (i 3 0), (r 29), tt, (i 181 0), (r 30), nn, (r 31), (r 32), (r 33), (i 224 0), (i 12 0), (s "/claim/cut.py" 225)]), #[]⟩
noncomputable def o35 (_ : Params) : Obj := fo (T "function") (fd (in_ 7 0) "RuneError.__init__" 3 nn nn nn (s "framerune.faults" 194) (r 34) nn 0)
noncomputable def o36 (_ : Params) : Obj := tn ["at", "code"] 227
noncomputable def o37 (P : Params) : Obj := ⟨(T "dict"), none, .dict (dA [(k P "__module__" 213 (s "framerune.faults" 194)), (k P "__firstlineno__" 217 (i 10 216)), (k P "__init__" 226 (r 35)), (k P "__static_attributes__" 229 (r 36)), (k P "__weakref__" 231 (r 39)), (k P "__doc__" 232 nn)]) 3, #[]⟩
noncomputable def o38 (_ : Params) : Obj := ⟨(T "type"), none, .cls (cd "RuneError" [(T "Exception")] [(r 38), (T "Exception"), (T "BaseException"), (T "object")] 37 "RuneError" true [(r 51), (r 63), (r 75)]), #[some (r 22), none, some (s "RuneError" 206), some (s "RuneError" 214), some (B "Exception.__new__"), some tt]⟩
noncomputable def o39 (_ : Params) : Obj := ⟨(T "getset_descriptor"), none, .fields (fA [(s "__weakref__" 230), (r 38), (B "ExceptionGroup.__weakref__"), nn]), #[]⟩
noncomputable def o40 (_ : Params) : Obj := ⟨(T "super"), none, .fields (fA [(r 38), (r 38), (r 38)]), #[]⟩
noncomputable def o41 (_ : Params) : Obj := ⟨(T "builtin_function_or_method"), none, .fields (fA [(B "object.__init_subclass__"), (r 38)]), #[]⟩
noncomputable def o42 (_ : Params) : Obj := tp [(r 38)]
noncomputable def o43 (_ : Params) : Obj := ⟨(T "builtin_function_or_method"), none, .fields (fA [(B "type.__prepare__"), (T "type")]), #[]⟩
noncomputable def o44 (P : Params) : Obj := ⟨(T "dict"), none, .dict (dA [(k P "__module__" 244 (s "framerune.faults" 194)), (k P "__qualname__" 246 (s "BadKind" 245)), (k P "__firstlineno__" 248 (i 15 247)), (k P "__static_attributes__" 249 (r 49))]) 4, #[]⟩
noncomputable def o45 (_ : Params) : Obj := te
noncomputable def o46 (_ : Params) : Obj := ft []
noncomputable def o47 (_ : Params) : Obj := ⟨(T "code"), none, .fields (fA [(s "BadKind" 239), (s "BadKind" 240), (s "/claim/cut.py" 241), (i 15 0), (i 0 0), (i 0 0), (i 0 0), (i 0 0), (r 45), ff, (i 181 0), (r 46), nn, nn, nn, nn, (i 242 0), (i 15 0), (s "/claim/cut.py" 243)]), #[]⟩
noncomputable def o48 (_ : Params) : Obj := ⟨(T "frame"), none, .plain, #[some (r 47), some (r 3), some (r 44), none, some (s "framerune.faults" 194), none, some (r 0)]⟩
noncomputable def o49 (_ : Params) : Obj := te
noncomputable def o50 (P : Params) : Obj := ⟨(T "dict"), none, .dict (dA [(k P "__module__" 244 (s "framerune.faults" 194)), (k P "__firstlineno__" 248 (i 15 247)), (k P "__static_attributes__" 249 (r 49)), (k P "__doc__" 250 nn)]) 2, #[]⟩
noncomputable def o51 (_ : Params) : Obj := ⟨(T "type"), none, .cls (cd "BadKind" [(r 38)] [(r 51), (r 38), (T "Exception"), (T "BaseException"), (T "object")] 50 "BadKind" true []), #[some (r 42), none, some (s "BadKind" 237), some (s "BadKind" 245), some (B "Exception.__new__"), some tt]⟩
noncomputable def o52 (_ : Params) : Obj := ⟨(T "super"), none, .fields (fA [(r 51), (r 51), (r 51)]), #[]⟩
noncomputable def o53 (_ : Params) : Obj := ⟨(T "builtin_function_or_method"), none, .fields (fA [(B "object.__init_subclass__"), (r 51)]), #[]⟩
noncomputable def o54 (_ : Params) : Obj := tp [(r 38)]
noncomputable def o55 (_ : Params) : Obj := ⟨(T "builtin_function_or_method"), none, .fields (fA [(B "type.__prepare__"), (T "type")]), #[]⟩
noncomputable def o56 (P : Params) : Obj := ⟨(T "dict"), none, .dict (dA [(k P "__module__" 260 (s "framerune.faults" 194)), (k P "__qualname__" 262 (s "LoadFault" 261)), (k P "__firstlineno__" 264 (i 17 263)), (k P "__static_attributes__" 265 (r 61))]) 4, #[]⟩
noncomputable def o57 (_ : Params) : Obj := te
noncomputable def o58 (_ : Params) : Obj := ft []
noncomputable def o59 (_ : Params) : Obj := ⟨(T "code"), none, .fields (fA [(s "LoadFault" 255), (s "LoadFault" 256), (s "/claim/cut.py" 257), (i 17 0), (i 0 0), (i 0 0), (i 0 0), (i 0 0), (r 57), ff, (i 181 0), (r 58), nn, nn, nn, nn, (i 258 0), (i 17 0), (s "/claim/cut.py" 259)]), #[]⟩
noncomputable def o60 (_ : Params) : Obj := ⟨(T "frame"), none, .plain, #[some (r 59), some (r 3), some (r 56), none, some (s "framerune.faults" 194), none, some (r 0)]⟩
noncomputable def o61 (_ : Params) : Obj := te
noncomputable def o62 (P : Params) : Obj := ⟨(T "dict"), none, .dict (dA [(k P "__module__" 260 (s "framerune.faults" 194)), (k P "__firstlineno__" 264 (i 17 263)), (k P "__static_attributes__" 265 (r 61)), (k P "__doc__" 266 nn)]) 2, #[]⟩
noncomputable def o63 (_ : Params) : Obj := ⟨(T "type"), none, .cls (cd "LoadFault" [(r 38)] [(r 63), (r 38), (T "Exception"), (T "BaseException"), (T "object")] 62 "LoadFault" true []), #[some (r 54), none, some (s "LoadFault" 253), some (s "LoadFault" 261), some (B "Exception.__new__"), some tt]⟩
noncomputable def o64 (_ : Params) : Obj := ⟨(T "super"), none, .fields (fA [(r 63), (r 63), (r 63)]), #[]⟩
noncomputable def o65 (_ : Params) : Obj := ⟨(T "builtin_function_or_method"), none, .fields (fA [(B "object.__init_subclass__"), (r 63)]), #[]⟩
noncomputable def o66 (_ : Params) : Obj := tp [(r 38)]
noncomputable def o67 (_ : Params) : Obj := ⟨(T "builtin_function_or_method"), none, .fields (fA [(B "type.__prepare__"), (T "type")]), #[]⟩
noncomputable def o68 (P : Params) : Obj := ⟨(T "dict"), none, .dict (dA [(k P "__module__" 276 (s "framerune.faults" 194)), (k P "__qualname__" 278 (s "LeftOut" 277)), (k P "__firstlineno__" 280 (i 19 279)), (k P "__static_attributes__" 281 (r 73))]) 4, #[]⟩
noncomputable def o69 (_ : Params) : Obj := te
noncomputable def o70 (_ : Params) : Obj := ft []
noncomputable def o71 (_ : Params) : Obj := ⟨(T "code"), none, .fields (fA [(s "LeftOut" 271), (s "LeftOut" 272), (s "/claim/cut.py" 273), (i 19 0), (i 0 0), (i 0 0), (i 0 0), (i 0 0), (r 69), ff, (i 181 0), (r 70), nn, nn, nn, nn, (i 274 0), (i 19 0), (s "/claim/cut.py" 275)]), #[]⟩
noncomputable def o72 (_ : Params) : Obj := ⟨(T "frame"), none, .plain, #[some (r 71), some (r 3), some (r 68), none, some (s "framerune.faults" 194), none, some (r 0)]⟩
noncomputable def o73 (_ : Params) : Obj := te
noncomputable def o74 (P : Params) : Obj := ⟨(T "dict"), none, .dict (dA [(k P "__module__" 276 (s "framerune.faults" 194)), (k P "__firstlineno__" 280 (i 19 279)), (k P "__static_attributes__" 281 (r 73)), (k P "__doc__" 282 nn)]) 2, #[]⟩
noncomputable def o75 (_ : Params) : Obj := ⟨(T "type"), none, .cls (cd "LeftOut" [(r 38)] [(r 75), (r 38), (T "Exception"), (T "BaseException"), (T "object")] 74 "LeftOut" true []), #[some (r 66), none, some (s "LeftOut" 269), some (s "LeftOut" 277), some (B "Exception.__new__"), some tt]⟩
noncomputable def o76 (_ : Params) : Obj := ⟨(T "super"), none, .fields (fA [(r 75), (r 75), (r 75)]), #[]⟩
noncomputable def o77 (_ : Params) : Obj := ⟨(T "builtin_function_or_method"), none, .fields (fA [(B "object.__init_subclass__"), (r 75)]), #[]⟩
noncomputable def o78 (_ : Params) : Obj := ⟨(T "dict"), none, .dict (dA [⟨0, (i 0 287), (i 20 345)⟩, ⟨1, (i 1 289), (i 9 346)⟩, ⟨2, (i 2 291), (i 10 347)⟩, ⟨3, (i 3 293), (i 11 348)⟩, ⟨4, (i 4 295), (i 12 349)⟩, ⟨5, (i 5 297), (i 13 350)⟩, ⟨6, (i 6 299), (i 14 351)⟩, ⟨7, (i 7 301), (i 15 352)⟩, ⟨8, (i 8 303), (i 16 353)⟩, ⟨9, (i 9 305), (i 17 354)⟩, ⟨10, (i 10 307), (i 18 355)⟩, ⟨11, (i 11 309), (i 19 356)⟩, ⟨12, (i 12 311), (i 1 357)⟩, ⟨13, (i 13 313), (i 4 358)⟩]) 14, #[]⟩
noncomputable def o79 (_ : Params) : Obj := ⟨(T "dict"), none, .dict (dA [⟨20, (i 20 374), (i 0 287)⟩, ⟨9, (i 9 375), (i 1 289)⟩, ⟨10, (i 10 376), (i 2 291)⟩, ⟨11, (i 11 377), (i 3 293)⟩, ⟨12, (i 12 378), (i 4 295)⟩, ⟨13, (i 13 379), (i 5 297)⟩, ⟨14, (i 14 380), (i 6 299)⟩, ⟨15, (i 15 381), (i 7 301)⟩, ⟨16, (i 16 382), (i 8 303)⟩, ⟨17, (i 17 383), (i 9 305)⟩, ⟨18, (i 18 384), (i 10 307)⟩, ⟨19, (i 19 385), (i 11 309)⟩, ⟨1, (i 1 386), (i 12 311)⟩, ⟨4, (i 4 387), (i 13 313)⟩]) 14, #[]⟩
noncomputable def o80 (_ : Params) : Obj := ⟨(T "dict"), none, .dict (dA [⟨1, (i 1 289), (r 81)⟩, ⟨2, (i 2 291), (r 82)⟩, ⟨3, (i 3 293), (r 83)⟩, ⟨4, (i 4 295), (r 84)⟩, ⟨5, (i 5 297), (r 85)⟩, ⟨6, (i 6 299), (r 86)⟩, ⟨7, (i 7 301), (r 87)⟩, ⟨8, (i 8 303), (r 88)⟩, ⟨9, (i 9 305), (r 89)⟩, ⟨10, (i 10 307), (r 90)⟩, ⟨11, (i 11 309), (r 91)⟩]) 11, #[]⟩
noncomputable def o81 (_ : Params) : Obj := tp [(i 0 407), (i 255 408)]
noncomputable def o82 (_ : Params) : Obj := tp [(i 0 409), (i 65535 410)]
noncomputable def o83 (_ : Params) : Obj := tp [(i (-128) 412), (i 127 413)]
noncomputable def o84 (_ : Params) : Obj := tp [(i 0 414), (i 255 415)]
noncomputable def o85 (_ : Params) : Obj := tp [(i (-32768) 417), (i 32767 418)]
noncomputable def o86 (_ : Params) : Obj := tp [(i 0 419), (i 65535 420)]
noncomputable def o87 (_ : Params) : Obj := tp [(i (-2147483648) 422), (i 2147483647 423)]
noncomputable def o88 (_ : Params) : Obj := tp [(i 0 424), (i 4294967295 425)]
noncomputable def o89 (_ : Params) : Obj := tp [(i (-9223372036854775808) 427), (i 9223372036854775807 428)]
noncomputable def o90 (_ : Params) : Obj := tp [(i 0 429), (i 18446744073709551615 430)]
noncomputable def o91 (_ : Params) : Obj := tp [(i (-2147483648) 432), (i 2147483647 433)]
noncomputable def o92 (_ : Params) : Obj := te
noncomputable def o93 (_ : Params) : Obj := ⟨(T "builtin_function_or_method"), none, .fields (fA [(B "type.__prepare__"), (T "type")]), #[]⟩
noncomputable def o94 (P : Params) : Obj := ⟨(T "dict"), none, .dict (dA [(k P "__module__" 453 (s "framerune.kinds" 285)), (k P "__qualname__" 455 (s "KindTable" 454)), (k P "__firstlineno__" 457 (i 56 456)), (k P "__init__" 466 (r 105)), (k P "row" 474 (r 112)), (k P "put" 489 (r 119)), (k P "__static_attributes__" 495 (r 120))]) 7, #[]⟩
noncomputable def o95 (_ : Params) : Obj := te
noncomputable def o96 (_ : Params) : Obj := ft [58, 4, 104, 72, 4, 111, 77, 4, 118]
noncomputable def o97 (_ : Params) : Obj := ⟨(T "code"), none, .fields (fA [(s "KindTable" 448), (s "KindTable" 449), (s "/claim/cut.py" 450), (i 56 0), (i 0 0), (i 0 0), (i 0 0), (i 0 0), (r 95), ff, (i 181 0), (r 96), nn, nn, nn, nn, (i 451 0), (i 56 0), (s "/claim/cut.py" 452)]), #[]⟩
noncomputable def o98 (_ : Params) : Obj := ⟨(T "frame"), none, .plain, #[some (r 97), some (r 3), some (r 94), none, some (s "framerune.kinds" 285), none, some (r 0)]⟩
noncomputable def o99 (_ : Params) : Obj := te
noncomputable def o100 (_ : Params) : Obj := ft []
noncomputable def o101 (_ : Params) : Obj := tn ["self", "number", "row"] 461
noncomputable def o102 (_ : Params) : Obj := te
noncomputable def o103 (_ : Params) : Obj := fo nn (fd (in_ 46 0) "KindTable.__init__" 0 nn nn nn nn nn nn 0)
noncomputable def o104 (_ : Params) : Obj := ⟨(T "code"), none, .fields (fA [(s "__init__" 458), (s "KindTable.__init__" 459), (s "/claim/cut.py" 460), (i 58 0), (i 1 0), (i 0 0), (i 0 0), (i 3 0), (r 99), tt, (i 181 0), (r 100), nn, (r 101), (r 102), (r 103), (i 464 0), (i 58 0), (s "/claim/cut.py" 465)]), #[]⟩
noncomputable def o105 (_ : Params) : Obj := fo (T "function") (fd (in_ 46 0) "KindTable.__init__" 3 nn nn nn (s "framerune.kinds" 285) (r 104) nn 0)
noncomputable def o106 (_ : Params) : Obj := te
noncomputable def o107 (_ : Params) : Obj := ft []
noncomputable def o108 (_ : Params) : Obj := tn ["self", "k"] 470
noncomputable def o109 (_ : Params) : Obj := te
noncomputable def o110 (_ : Params) : Obj := fo nn (fd (in_ 46 1) "KindTable.row" 0 nn nn nn nn nn nn 0)
noncomputable def o111 (_ : Params) : Obj := ⟨(T "code"), none, .fields (fA [(s "row" 467), (s "KindTable.row" 468), (s "/claim/cut.py" 469), (i 72 0), (i 2 0), (i 0 0), (i 0 0), (i 3 0), (r 106), tt, (i 181 0), (r 107), nn, (r 108), (r 109), (r 110), (i 472 0), (i 72 0), (s "/claim/cut.py" 473)]), #[]⟩
noncomputable def o112 (_ : Params) : Obj := fo (T "function") (fd (in_ 46 1) "KindTable.row" 3 nn nn nn (s "framerune.kinds" 285) (r 111) nn 0)
noncomputable def o113 (_ : Params) : Obj := te
noncomputable def o114 (_ : Params) : Obj := ft []
noncomputable def o115 (_ : Params) : Obj := tn ["self", "row", "found", "depth", "weight", "opened", "level", "inner", "k"] 478
noncomputable def o116 (_ : Params) : Obj := te
noncomputable def o117 (_ : Params) : Obj := fo nn (fd (in_ 46 2) "KindTable.put" 0 nn nn nn nn nn nn 0)
noncomputable def o118 (_ : Params) : Obj := ⟨(T "code"), none, .fields (fA [(s "put" 475), (s "KindTable.put" 476), (s "/claim/cut.py" 477), (i 77 0), (i 2 0), (i 0 0), (i 0 0), (i 3 0), (r 113), tt, (i 181 0), (r 114), nn, (r 115), (r 116), (r 117), (i 487 0), (i 77 0), (s "/claim/cut.py" 488)]), #[]⟩
noncomputable def o119 (_ : Params) : Obj := fo (T "function") (fd (in_ 46 2) "KindTable.put" 3 nn nn nn (s "framerune.kinds" 285) (r 118) nn 0)
noncomputable def o120 (_ : Params) : Obj := tn ["depths", "index", "opens", "rows", "weights"] 490
noncomputable def o121 (P : Params) : Obj := ⟨(T "dict"), none, .dict (dA [(k P "__module__" 453 (s "framerune.kinds" 285)), (k P "__firstlineno__" 457 (i 56 456)), (k P "__init__" 466 (r 105)), (k P "row" 474 (r 112)), (k P "put" 489 (r 119)), (k P "__static_attributes__" 495 (r 120)), (k P "__dict__" 497 (r 123)), (k P "__weakref__" 499 (r 124)), (k P "__doc__" 500 nn)]) 4, #[]⟩
noncomputable def o122 (_ : Params) : Obj := ⟨(T "type"), none, .cls (cd "KindTable" [(T "object")] [(r 122), (T "object")] 121 "KindTable" true []), #[none, none, some (s "KindTable" 446), some (s "KindTable" 454), some (B "object.__new__"), some tt]⟩
noncomputable def o123 (_ : Params) : Obj := ⟨(T "getset_descriptor"), none, .fields (fA [(s "__dict__" 496), (r 122), (B "function.__dict__"), (B "function.__dict__#set")]), #[]⟩
noncomputable def o124 (_ : Params) : Obj := ⟨(T "getset_descriptor"), none, .fields (fA [(s "__weakref__" 498), (r 122), (B "ExceptionGroup.__weakref__"), nn]), #[]⟩
noncomputable def o125 (_ : Params) : Obj := ⟨(T "super"), none, .fields (fA [(r 122), (r 122), (r 122)]), #[]⟩
noncomputable def o126 (_ : Params) : Obj := ⟨(T "builtin_function_or_method"), none, .fields (fA [(B "object.__init_subclass__"), (r 122)]), #[]⟩
noncomputable def o127 (_ : Params) : Obj := te
noncomputable def o128 (_ : Params) : Obj := ft []
noncomputable def o129 (_ : Params) : Obj := tn ["row", "sort"] 506
noncomputable def o130 (_ : Params) : Obj := te
noncomputable def o131 (_ : Params) : Obj := fo nn (fd (at_ 47) "inner_kinds" 0 nn nn nn nn nn nn 0)
noncomputable def o132 (_ : Params) : Obj := ⟨(T "code"), none, .fields (fA [(s "inner_kinds" 503), (s "inner_kinds" 504), (s "/claim/cut.py" 505), (i 105 0), (i 1 0), (i 0 0), (i 0 0), (i 3 0), (r 127), tt, (i 181 0), (r 128), nn, (r 129), (r 130), (r 131), (i 508 0), (i 105 0), (s "/claim/cut.py" 509)]), #[]⟩
noncomputable def o133 (_ : Params) : Obj := fo (T "function") (fd (at_ 47) "inner_kinds" 3 nn nn nn (s "framerune.kinds" 285) (r 132) nn 0)
noncomputable def o134 (_ : Params) : Obj := te
noncomputable def o135 (_ : Params) : Obj := ft []
noncomputable def o136 (_ : Params) : Obj := tn ["sort"] 514
noncomputable def o137 (_ : Params) : Obj := te
noncomputable def o138 (_ : Params) : Obj := fo nn (fd (at_ 48) "row_level" 0 nn nn nn nn nn nn 0)
noncomputable def o139 (_ : Params) : Obj := ⟨(T "code"), none, .fields (fA [(s "row_level" 511), (s "row_level" 512), (s "/claim/cut.py" 513), (i 114 0), (i 1 0), (i 0 0), (i 0 0), (i 3 0), (r 134), tt, (i 181 0), (r 135), nn, (r 136), (r 137), (r 138), (i 515 0), (i 114 0), (s "/claim/cut.py" 516)]), #[]⟩
noncomputable def o140 (_ : Params) : Obj := fo (T "function") (fd (at_ 48) "row_level" 3 nn nn nn (s "framerune.kinds" 285) (r 139) nn 0)
noncomputable def o141 (_ : Params) : Obj := te
noncomputable def o142 (_ : Params) : Obj := ft []
noncomputable def o143 (_ : Params) : Obj := tn ["sort"] 521
noncomputable def o144 (_ : Params) : Obj := te
noncomputable def o145 (_ : Params) : Obj := fo nn (fd (at_ 49) "row_length" 0 nn nn nn nn nn nn 0)
noncomputable def o146 (_ : Params) : Obj := ⟨(T "code"), none, .fields (fA [(s "row_length" 518), (s "row_length" 519), (s "/claim/cut.py" 520), (i 118 0), (i 1 0), (i 0 0), (i 0 0), (i 3 0), (r 141), tt, (i 181 0), (r 142), nn, (r 143), (r 144), (r 145), (i 522 0), (i 118 0), (s "/claim/cut.py" 523)]), #[]⟩
noncomputable def o147 (_ : Params) : Obj := fo (T "function") (fd (at_ 49) "row_length" 3 nn nn nn (s "framerune.kinds" 285) (r 146) nn 0)
noncomputable def o148 (_ : Params) : Obj := te
noncomputable def o149 (_ : Params) : Obj := ft []
noncomputable def o150 (_ : Params) : Obj := tn ["kt", "row", "sort", "inner"] 528
noncomputable def o151 (_ : Params) : Obj := te
noncomputable def o152 (_ : Params) : Obj := fo nn (fd (at_ 50) "check_kind_row" 0 nn nn nn nn nn nn 0)
noncomputable def o153 (_ : Params) : Obj := ⟨(T "code"), none, .fields (fA [(s "check_kind_row" 525), (s "check_kind_row" 526), (s "/claim/cut.py" 527), (i 124 0), (i 2 0), (i 0 0), (i 0 0), (i 3 0), (r 148), tt, (i 181 0), (r 149), nn, (r 150), (r 151), (r 152), (i 532 0), (i 124 0), (s "/claim/cut.py" 533)]), #[]⟩
noncomputable def o154 (_ : Params) : Obj := fo (T "function") (fd (at_ 50) "check_kind_row" 3 nn nn nn (s "framerune.kinds" 285) (r 153) nn 0)
noncomputable def o155 (_ : Params) : Obj := te
noncomputable def o156 (_ : Params) : Obj := ft []
noncomputable def o157 (_ : Params) : Obj := tn ["kt", "row"] 538
noncomputable def o158 (_ : Params) : Obj := te
noncomputable def o159 (_ : Params) : Obj := fo nn (fd (at_ 51) "check_named" 0 nn nn nn nn nn nn 0)
noncomputable def o160 (_ : Params) : Obj := ⟨(T "code"), none, .fields (fA [(s "check_named" 535), (s "check_named" 536), (s "/claim/cut.py" 537), (i 146 0), (i 2 0), (i 0 0), (i 0 0), (i 3 0), (r 155), tt, (i 181 0), (r 156), nn, (r 157), (r 158), (r 159), (i 540 0), (i 146 0), (s "/claim/cut.py" 541)]), #[]⟩
noncomputable def o161 (_ : Params) : Obj := fo (T "function") (fd (at_ 51) "check_named" 3 nn nn nn (s "framerune.kinds" 285) (r 160) nn 0)
noncomputable def o162 (_ : Params) : Obj := te
noncomputable def o163 (_ : Params) : Obj := ft []
noncomputable def o164 (_ : Params) : Obj := tn ["kt", "args", "arg"] 546
noncomputable def o165 (_ : Params) : Obj := te
noncomputable def o166 (_ : Params) : Obj := fo nn (fd (at_ 52) "check_args" 0 nn nn nn nn nn nn 0)
noncomputable def o167 (_ : Params) : Obj := ⟨(T "code"), none, .fields (fA [(s "check_args" 543), (s "check_args" 544), (s "/claim/cut.py" 545), (i 150 0), (i 2 0), (i 0 0), (i 0 0), (i 3 0), (r 162), tt, (i 181 0), (r 163), nn, (r 164), (r 165), (r 166), (i 549 0), (i 150 0), (s "/claim/cut.py" 550)]), #[]⟩
noncomputable def o168 (_ : Params) : Obj := fo (T "function") (fd (at_ 52) "check_args" 3 nn nn nn (s "framerune.kinds" 285) (r 167) nn 0)
noncomputable def o169 (_ : Params) : Obj := te
noncomputable def o170 (_ : Params) : Obj := ft []
noncomputable def o171 (_ : Params) : Obj := tn ["kt", "k", "sort"] 555
noncomputable def o172 (_ : Params) : Obj := te
noncomputable def o173 (_ : Params) : Obj := fo nn (fd (at_ 53) "may_stand" 0 nn nn nn nn nn nn 0)
noncomputable def o174 (_ : Params) : Obj := ⟨(T "code"), none, .fields (fA [(s "may_stand" 552), (s "may_stand" 553), (s "/claim/cut.py" 554), (i 154 0), (i 2 0), (i 0 0), (i 0 0), (i 3 0), (r 169), tt, (i 181 0), (r 170), nn, (r 171), (r 172), (r 173), (i 558 0), (i 154 0), (s "/claim/cut.py" 559)]), #[]⟩
noncomputable def o175 (_ : Params) : Obj := fo (T "function") (fd (at_ 53) "may_stand" 3 nn nn nn (s "framerune.kinds" 285) (r 174) nn 0)
noncomputable def o176 (_ : Params) : Obj := te
noncomputable def o177 (_ : Params) : Obj := ft []
noncomputable def o178 (_ : Params) : Obj := tn ["kt", "k"] 564
noncomputable def o179 (_ : Params) : Obj := te
noncomputable def o180 (_ : Params) : Obj := fo nn (fd (at_ 54) "kind_sort" 0 nn nn nn nn nn nn 0)
noncomputable def o181 (_ : Params) : Obj := ⟨(T "code"), none, .fields (fA [(s "kind_sort" 561), (s "kind_sort" 562), (s "/claim/cut.py" 563), (i 159 0), (i 2 0), (i 0 0), (i 0 0), (i 3 0), (r 176), tt, (i 181 0), (r 177), nn, (r 178), (r 179), (r 180), (i 566 0), (i 159 0), (s "/claim/cut.py" 567)]), #[]⟩
noncomputable def o182 (_ : Params) : Obj := fo (T "function") (fd (at_ 54) "kind_sort" 3 nn nn nn (s "framerune.kinds" 285) (r 181) nn 0)
noncomputable def o183 (_ : Params) : Obj := te
noncomputable def o184 (_ : Params) : Obj := ft []
noncomputable def o185 (_ : Params) : Obj := tn ["kt", "k", "row"] 572
noncomputable def o186 (_ : Params) : Obj := te
noncomputable def o187 (_ : Params) : Obj := fo nn (fd (at_ 55) "tid_of" 0 nn nn nn nn nn nn 0)
noncomputable def o188 (_ : Params) : Obj := ⟨(T "code"), none, .fields (fA [(s "tid_of" 569), (s "tid_of" 570), (s "/claim/cut.py" 571), (i 161 0), (i 2 0), (i 0 0), (i 0 0), (i 3 0), (r 183), tt, (i 181 0), (r 184), nn, (r 185), (r 186), (r 187), (i 575 0), (i 161 0), (s "/claim/cut.py" 576)]), #[]⟩
noncomputable def o189 (_ : Params) : Obj := fo (T "function") (fd (at_ 55) "tid_of" 3 nn nn nn (s "framerune.kinds" 285) (r 188) nn 0)
noncomputable def o190 (_ : Params) : Obj := te
noncomputable def o191 (_ : Params) : Obj := ft []
noncomputable def o192 (_ : Params) : Obj := tn ["kt", "k", "row"] 581
noncomputable def o193 (_ : Params) : Obj := te
noncomputable def o194 (_ : Params) : Obj := fo nn (fd (at_ 56) "args_of" 0 nn nn nn nn nn nn 0)
noncomputable def o195 (_ : Params) : Obj := ⟨(T "code"), none, .fields (fA [(s "args_of" 578), (s "args_of" 579), (s "/claim/cut.py" 580), (i 170 0), (i 2 0), (i 0 0), (i 0 0), (i 3 0), (r 190), tt, (i 181 0), (r 191), nn, (r 192), (r 193), (r 194), (i 584 0), (i 170 0), (s "/claim/cut.py" 585)]), #[]⟩
noncomputable def o196 (_ : Params) : Obj := fo (T "function") (fd (at_ 56) "args_of" 3 nn nn nn (s "framerune.kinds" 285) (r 195) nn 0)
noncomputable def o197 (_ : Params) : Obj := te
noncomputable def o198 (_ : Params) : Obj := ft []
noncomputable def o199 (_ : Params) : Obj := tn ["kt", "k"] 590
noncomputable def o200 (_ : Params) : Obj := te
noncomputable def o201 (_ : Params) : Obj := fo nn (fd (at_ 57) "is_value" 0 nn nn nn nn nn nn 0)
noncomputable def o202 (_ : Params) : Obj := ⟨(T "code"), none, .fields (fA [(s "is_value" 587), (s "is_value" 588), (s "/claim/cut.py" 589), (i 175 0), (i 2 0), (i 0 0), (i 0 0), (i 3 0), (r 197), tt, (i 181 0), (r 198), nn, (r 199), (r 200), (r 201), (i 592 0), (i 175 0), (s "/claim/cut.py" 593)]), #[]⟩
noncomputable def o203 (_ : Params) : Obj := fo (T "function") (fd (at_ 57) "is_value" 3 nn nn nn (s "framerune.kinds" 285) (r 202) nn 0)
noncomputable def o204 (_ : Params) : Obj := te
noncomputable def o205 (_ : Params) : Obj := ft []
noncomputable def o206 (_ : Params) : Obj := tn ["kt", "k", "sort"] 598
noncomputable def o207 (_ : Params) : Obj := te
noncomputable def o208 (_ : Params) : Obj := fo nn (fd (at_ 58) "is_var" 0 nn nn nn nn nn nn 0)
noncomputable def o209 (_ : Params) : Obj := ⟨(T "code"), none, .fields (fA [(s "is_var" 595), (s "is_var" 596), (s "/claim/cut.py" 597), (i 179 0), (i 2 0), (i 0 0), (i 0 0), (i 3 0), (r 204), tt, (i 181 0), (r 205), nn, (r 206), (r 207), (r 208), (i 601 0), (i 179 0), (s "/claim/cut.py" 602)]), #[]⟩
noncomputable def o210 (_ : Params) : Obj := fo (T "function") (fd (at_ 58) "is_var" 3 nn nn nn (s "framerune.kinds" 285) (r 209) nn 0)
noncomputable def o211 (_ : Params) : Obj := te
noncomputable def o212 (_ : Params) : Obj := ft []
noncomputable def o213 (_ : Params) : Obj := tn ["kt", "k", "targs", "margs"] 607
noncomputable def o214 (_ : Params) : Obj := te
noncomputable def o215 (_ : Params) : Obj := fo nn (fd (at_ 59) "close" 0 nn nn nn nn nn nn 0)
noncomputable def o216 (_ : Params) : Obj := ⟨(T "code"), none, .fields (fA [(s "close" 604), (s "close" 605), (s "/claim/cut.py" 606), (i 182 0), (i 4 0), (i 0 0), (i 0 0), (i 3 0), (r 211), tt, (i 181 0), (r 212), nn, (r 213), (r 214), (r 215), (i 611 0), (i 182 0), (s "/claim/cut.py" 612)]), #[]⟩
noncomputable def o217 (_ : Params) : Obj := fo (T "function") (fd (at_ 59) "close" 3 nn nn nn (s "framerune.kinds" 285) (r 216) nn 0)
noncomputable def o218 (_ : Params) : Obj := te
noncomputable def o219 (_ : Params) : Obj := ft []
noncomputable def o220 (_ : Params) : Obj := tn ["kt", "k", "targs", "margs", "seen", "row", "inner", "part"] 617
noncomputable def o221 (_ : Params) : Obj := te
noncomputable def o222 (_ : Params) : Obj := fo nn (fd (at_ 60) "close_in" 0 nn nn nn nn nn nn 0)
noncomputable def o223 (_ : Params) : Obj := ⟨(T "code"), none, .fields (fA [(s "close_in" 614), (s "close_in" 615), (s "/claim/cut.py" 616), (i 187 0), (i 5 0), (i 0 0), (i 0 0), (i 3 0), (r 218), tt, (i 181 0), (r 219), nn, (r 220), (r 221), (r 222), (i 625 0), (i 187 0), (s "/claim/cut.py" 626)]), #[]⟩
noncomputable def o224 (_ : Params) : Obj := fo (T "function") (fd (at_ 60) "close_in" 3 nn nn nn (s "framerune.kinds" 285) (r 223) nn 0)
noncomputable def o225 (_ : Params) : Obj := te
noncomputable def o226 (_ : Params) : Obj := ft []
noncomputable def o227 (_ : Params) : Obj := tn ["kt", "row", "inner", "sort"] 631
noncomputable def o228 (_ : Params) : Obj := te
noncomputable def o229 (_ : Params) : Obj := fo nn (fd (at_ 61) "with_inner" 0 nn nn nn nn nn nn 0)
noncomputable def o230 (_ : Params) : Obj := ⟨(T "code"), none, .fields (fA [(s "with_inner" 628), (s "with_inner" 629), (s "/claim/cut.py" 630), (i 202 0), (i 3 0), (i 0 0), (i 0 0), (i 3 0), (r 225), tt, (i 181 0), (r 226), nn, (r 227), (r 228), (r 229), (i 635 0), (i 202 0), (s "/claim/cut.py" 636)]), #[]⟩
noncomputable def o231 (_ : Params) : Obj := fo (T "function") (fd (at_ 61) "with_inner" 3 nn nn nn (s "framerune.kinds" 285) (r 230) nn 0)
noncomputable def o232 (_ : Params) : Obj := te
noncomputable def o233 (_ : Params) : Obj := ft []
noncomputable def o234 (_ : Params) : Obj := tn ["kt", "k"] 641
noncomputable def o235 (_ : Params) : Obj := te
noncomputable def o236 (_ : Params) : Obj := fo nn (fd (at_ 62) "box_of" 0 nn nn nn nn nn nn 0)
noncomputable def o237 (_ : Params) : Obj := ⟨(T "code"), none, .fields (fA [(s "box_of" 638), (s "box_of" 639), (s "/claim/cut.py" 640), (i 211 0), (i 2 0), (i 0 0), (i 0 0), (i 3 0), (r 232), tt, (i 181 0), (r 233), nn, (r 234), (r 235), (r 236), (i 643 0), (i 211 0), (s "/claim/cut.py" 644)]), #[]⟩
noncomputable def o238 (_ : Params) : Obj := fo (T "function") (fd (at_ 62) "box_of" 3 nn nn nn (s "framerune.kinds" 285) (r 237) nn 0)
noncomputable def o239 (_ : Params) : Obj := te
noncomputable def o240 (_ : Params) : Obj := ft []
noncomputable def o241 (_ : Params) : Obj := tn ["args", "place", "k"] 649
noncomputable def o242 (_ : Params) : Obj := te
noncomputable def o243 (_ : Params) : Obj := fo nn (fd (at_ 63) "pick_arg" 0 nn nn nn nn nn nn 0)
noncomputable def o244 (_ : Params) : Obj := ⟨(T "code"), none, .fields (fA [(s "pick_arg" 646), (s "pick_arg" 647), (s "/claim/cut.py" 648), (i 219 0), (i 3 0), (i 0 0), (i 0 0), (i 3 0), (r 239), tt, (i 181 0), (r 240), nn, (r 241), (r 242), (r 243), (i 652 0), (i 219 0), (s "/claim/cut.py" 653)]), #[]⟩
noncomputable def o245 (_ : Params) : Obj := fo (T "function") (fd (at_ 63) "pick_arg" 3 nn nn nn (s "framerune.kinds" 285) (r 244) nn 0)
noncomputable def o246 (_ : Params) : Obj := te
noncomputable def o247 (_ : Params) : Obj := ft []
noncomputable def o248 (_ : Params) : Obj := tn ["k"] 658
noncomputable def o249 (_ : Params) : Obj := te
noncomputable def o250 (_ : Params) : Obj := fo nn (fd (at_ 64) "int_range" 0 nn nn nn nn nn nn 0)
noncomputable def o251 (_ : Params) : Obj := ⟨(T "code"), none, .fields (fA [(s "int_range" 655), (s "int_range" 656), (s "/claim/cut.py" 657), (i 223 0), (i 1 0), (i 0 0), (i 0 0), (i 3 0), (r 246), tt, (i 181 0), (r 247), nn, (r 248), (r 249), (r 250), (i 659 0), (i 223 0), (s "/claim/cut.py" 660)]), #[]⟩
noncomputable def o252 (_ : Params) : Obj := fo (T "function") (fd (at_ 64) "int_range" 3 nn nn nn (s "framerune.kinds" 285) (r 251) nn 0)
noncomputable def o253 (_ : Params) : Obj := te
noncomputable def o254 (_ : Params) : Obj := ft []
noncomputable def o255 (_ : Params) : Obj := tn ["k"] 665
noncomputable def o256 (_ : Params) : Obj := te
noncomputable def o257 (_ : Params) : Obj := fo nn (fd (at_ 65) "is_int" 0 nn nn nn nn nn nn 0)
noncomputable def o258 (_ : Params) : Obj := ⟨(T "code"), none, .fields (fA [(s "is_int" 662), (s "is_int" 663), (s "/claim/cut.py" 664), (i 227 0), (i 1 0), (i 0 0), (i 0 0), (i 3 0), (r 253), tt, (i 181 0), (r 254), nn, (r 255), (r 256), (r 257), (i 666 0), (i 227 0), (s "/claim/cut.py" 667)]), #[]⟩
noncomputable def o259 (_ : Params) : Obj := fo (T "function") (fd (at_ 65) "is_int" 3 nn nn nn (s "framerune.kinds" 285) (r 258) nn 0)
noncomputable def o260 (_ : Params) : Obj := te
noncomputable def o261 (_ : Params) : Obj := ft []
noncomputable def o262 (_ : Params) : Obj := tn ["tid", "which"] 688
noncomputable def o263 (_ : Params) : Obj := te
noncomputable def o264 (_ : Params) : Obj := fo nn (fd (at_ 74) "prim_method" 0 nn nn nn nn nn nn 0)
noncomputable def o265 (_ : Params) : Obj := ⟨(T "code"), none, .fields (fA [(s "prim_method" 685), (s "prim_method" 686), (s "/claim/cut.py" 687), (i 237 0), (i 2 0), (i 0 0), (i 0 0), (i 3 0), (r 260), tt, (i 181 0), (r 261), nn, (r 262), (r 263), (r 264), (i 690 0), (i 237 0), (s "/claim/cut.py" 691)]), #[]⟩
noncomputable def o266 (_ : Params) : Obj := fo (T "function") (fd (at_ 74) "prim_method" 3 nn nn nn (s "framerune.store" 675) (r 265) nn 0)
noncomputable def o267 (_ : Params) : Obj := te
noncomputable def o268 (_ : Params) : Obj := ft []
noncomputable def o269 (_ : Params) : Obj := tn ["store", "k", "tid"] 696
noncomputable def o270 (_ : Params) : Obj := te
noncomputable def o271 (_ : Params) : Obj := fo nn (fd (at_ 75) "type_of" 0 nn nn nn nn nn nn 0)
noncomputable def o272 (_ : Params) : Obj := ⟨(T "code"), none, .fields (fA [(s "type_of" 693), (s "type_of" 694), (s "/claim/cut.py" 695), (i 239 0), (i 2 0), (i 0 0), (i 0 0), (i 3 0), (r 267), tt, (i 181 0), (r 268), nn, (r 269), (r 270), (r 271), (i 699 0), (i 239 0), (s "/claim/cut.py" 700)]), #[]⟩
noncomputable def o273 (_ : Params) : Obj := fo (T "function") (fd (at_ 75) "type_of" 3 nn nn nn (s "framerune.store" 675) (r 272) nn 0)
noncomputable def o274 (_ : Params) : Obj := tp [(i 4 720), (i 0 721)]
noncomputable def o275 (_ : Params) : Obj := te
noncomputable def o276 (_ : Params) : Obj := ft []
noncomputable def o277 (_ : Params) : Obj := tn ["n", "bits"] 737
noncomputable def o278 (_ : Params) : Obj := te
noncomputable def o279 (_ : Params) : Obj := fo nn (fd (at_ 91) "wrap_bits" 0 nn nn nn nn nn nn 0)
noncomputable def o280 (_ : Params) : Obj := ⟨(T "code"), none, .fields (fA [(s "wrap_bits" 734), (s "wrap_bits" 735), (s "/claim/cut.py" 736), (i 259 0), (i 2 0), (i 0 0), (i 0 0), (i 3 0), (r 275), tt, (i 181 0), (r 276), nn, (r 277), (r 278), (r 279), (i 739 0), (i 259 0), (s "/claim/cut.py" 740)]), #[]⟩
noncomputable def o281 (_ : Params) : Obj := fo (T "function") (fd (at_ 91) "wrap_bits" 3 nn nn nn (s "framerune.values" 702) (r 280) nn 0)
noncomputable def o282 (_ : Params) : Obj := te
noncomputable def o283 (_ : Params) : Obj := ft []
noncomputable def o284 (_ : Params) : Obj := tn ["n"] 745
noncomputable def o285 (_ : Params) : Obj := te
noncomputable def o286 (_ : Params) : Obj := fo nn (fd (at_ 92) "wrap32" 0 nn nn nn nn nn nn 0)
noncomputable def o287 (_ : Params) : Obj := ⟨(T "code"), none, .fields (fA [(s "wrap32" 742), (s "wrap32" 743), (s "/claim/cut.py" 744), (i 264 0), (i 1 0), (i 0 0), (i 0 0), (i 3 0), (r 282), tt, (i 181 0), (r 283), nn, (r 284), (r 285), (r 286), (i 746 0), (i 264 0), (s "/claim/cut.py" 747)]), #[]⟩
noncomputable def o288 (_ : Params) : Obj := fo (T "function") (fd (at_ 92) "wrap32" 3 nn nn nn (s "framerune.values" 702) (r 287) nn 0)
noncomputable def o289 (_ : Params) : Obj := te
noncomputable def o290 (_ : Params) : Obj := ft []
noncomputable def o291 (_ : Params) : Obj := tn ["n"] 752
noncomputable def o292 (_ : Params) : Obj := te
noncomputable def o293 (_ : Params) : Obj := fo nn (fd (at_ 93) "wrap64" 0 nn nn nn nn nn nn 0)
noncomputable def o294 (_ : Params) : Obj := ⟨(T "code"), none, .fields (fA [(s "wrap64" 749), (s "wrap64" 750), (s "/claim/cut.py" 751), (i 266 0), (i 1 0), (i 0 0), (i 0 0), (i 3 0), (r 289), tt, (i 181 0), (r 290), nn, (r 291), (r 292), (r 293), (i 753 0), (i 266 0), (s "/claim/cut.py" 754)]), #[]⟩
noncomputable def o295 (_ : Params) : Obj := fo (T "function") (fd (at_ 93) "wrap64" 3 nn nn nn (s "framerune.values" 702) (r 294) nn 0)
noncomputable def o296 (_ : Params) : Obj := te
noncomputable def o297 (_ : Params) : Obj := ft []
noncomputable def o298 (_ : Params) : Obj := tn ["store", "k", "t"] 759
noncomputable def o299 (_ : Params) : Obj := te
noncomputable def o300 (_ : Params) : Obj := fo nn (fd (at_ 94) "plain_kind" 0 nn nn nn nn nn nn 0)
noncomputable def o301 (_ : Params) : Obj := ⟨(T "code"), none, .fields (fA [(s "plain_kind" 756), (s "plain_kind" 757), (s "/claim/cut.py" 758), (i 268 0), (i 2 0), (i 0 0), (i 0 0), (i 3 0), (r 296), tt, (i 181 0), (r 297), nn, (r 298), (r 299), (r 300), (i 762 0), (i 268 0), (s "/claim/cut.py" 763)]), #[]⟩
noncomputable def o302 (_ : Params) : Obj := fo (T "function") (fd (at_ 94) "plain_kind" 3 nn nn nn (s "framerune.values" 702) (r 301) nn 0)
noncomputable def o303 (_ : Params) : Obj := te
noncomputable def o304 (_ : Params) : Obj := ft []
noncomputable def o305 (_ : Params) : Obj := tn ["k", "n"] 768
noncomputable def o306 (_ : Params) : Obj := te
noncomputable def o307 (_ : Params) : Obj := fo nn (fd (at_ 95) "cut_to" 0 nn nn nn nn nn nn 0)
noncomputable def o308 (_ : Params) : Obj := ⟨(T "code"), none, .fields (fA [(s "cut_to" 765), (s "cut_to" 766), (s "/claim/cut.py" 767), (i 279 0), (i 2 0), (i 0 0), (i 0 0), (i 3 0), (r 303), tt, (i 181 0), (r 304), nn, (r 305), (r 306), (r 307), (i 770 0), (i 279 0), (s "/claim/cut.py" 771)]), #[]⟩
noncomputable def o309 (_ : Params) : Obj := fo (T "function") (fd (at_ 95) "cut_to" 3 nn nn nn (s "framerune.values" 702) (r 308) nn 0)
noncomputable def o310 (_ : Params) : Obj := te
noncomputable def o311 (_ : Params) : Obj := ft []
noncomputable def o312 (_ : Params) : Obj := tn ["kt", "k", "value", "tag"] 776
noncomputable def o313 (_ : Params) : Obj := te
noncomputable def o314 (_ : Params) : Obj := fo nn (fd (at_ 96) "store_as" 0 nn nn nn nn nn nn 0)
noncomputable def o315 (_ : Params) : Obj := ⟨(T "code"), none, .fields (fA [(s "store_as" 773), (s "store_as" 774), (s "/claim/cut.py" 775), (i 291 0), (i 3 0), (i 0 0), (i 0 0), (i 3 0), (r 310), tt, (i 181 0), (r 311), nn, (r 312), (r 313), (r 314), (i 780 0), (i 291 0), (s "/claim/cut.py" 781)]), #[]⟩
noncomputable def o316 (_ : Params) : Obj := fo (T "function") (fd (at_ 96) "store_as" 3 nn nn nn (s "framerune.values" 702) (r 315) nn 0)
noncomputable def o317 (_ : Params) : Obj := te
noncomputable def o318 (_ : Params) : Obj := ft []
noncomputable def o319 (_ : Params) : Obj := tn ["kt", "k"] 786
noncomputable def o320 (_ : Params) : Obj := te
noncomputable def o321 (_ : Params) : Obj := fo nn (fd (at_ 97) "tag_of" 0 nn nn nn nn nn nn 0)
noncomputable def o322 (_ : Params) : Obj := ⟨(T "code"), none, .fields (fA [(s "tag_of" 783), (s "tag_of" 784), (s "/claim/cut.py" 785), (i 297 0), (i 2 0), (i 0 0), (i 0 0), (i 3 0), (r 317), tt, (i 181 0), (r 318), nn, (r 319), (r 320), (r 321), (i 788 0), (i 297 0), (s "/claim/cut.py" 789)]), #[]⟩
noncomputable def o323 (_ : Params) : Obj := fo (T "function") (fd (at_ 97) "tag_of" 3 nn nn nn (s "framerune.values" 702) (r 322) nn 0)
noncomputable def o324 (_ : Params) : Obj := te
noncomputable def o325 (_ : Params) : Obj := ft []
noncomputable def o326 (_ : Params) : Obj := tn ["sort"] 794
noncomputable def o327 (_ : Params) : Obj := te
noncomputable def o328 (_ : Params) : Obj := fo nn (fd (at_ 98) "tag_of_row" 0 nn nn nn nn nn nn 0)
noncomputable def o329 (_ : Params) : Obj := ⟨(T "code"), none, .fields (fA [(s "tag_of_row" 791), (s "tag_of_row" 792), (s "/claim/cut.py" 793), (i 307 0), (i 1 0), (i 0 0), (i 0 0), (i 3 0), (r 324), tt, (i 181 0), (r 325), nn, (r 326), (r 327), (r 328), (i 795 0), (i 307 0), (s "/claim/cut.py" 796)]), #[]⟩
noncomputable def o330 (_ : Params) : Obj := fo (T "function") (fd (at_ 98) "tag_of_row" 3 nn nn nn (s "framerune.values" 702) (r 329) nn 0)
noncomputable def o331 (_ : Params) : Obj := te
noncomputable def o332 (_ : Params) : Obj := ft []
noncomputable def o333 (_ : Params) : Obj := tn ["kt", "value", "k", "tag"] 801
noncomputable def o334 (_ : Params) : Obj := te
noncomputable def o335 (_ : Params) : Obj := fo nn (fd (at_ 99) "fits" 0 nn nn nn nn nn nn 0)
noncomputable def o336 (_ : Params) : Obj := ⟨(T "code"), none, .fields (fA [(s "fits" 798), (s "fits" 799), (s "/claim/cut.py" 800), (i 317 0), (i 3 0), (i 0 0), (i 0 0), (i 3 0), (r 331), tt, (i 181 0), (r 332), nn, (r 333), (r 334), (r 335), (i 805 0), (i 317 0), (s "/claim/cut.py" 806)]), #[]⟩
noncomputable def o337 (_ : Params) : Obj := fo (T "function") (fd (at_ 99) "fits" 3 nn nn nn (s "framerune.values" 702) (r 336) nn 0)
noncomputable def o338 (_ : Params) : Obj := te
noncomputable def o339 (_ : Params) : Obj := ft []
noncomputable def o340 (_ : Params) : Obj := tn ["value", "path", "slot"] 811
noncomputable def o341 (_ : Params) : Obj := te
noncomputable def o342 (_ : Params) : Obj := fo nn (fd (at_ 100) "get_path" 0 nn nn nn nn nn nn 0)
noncomputable def o343 (_ : Params) : Obj := ⟨(T "code"), none, .fields (fA [(s "get_path" 808), (s "get_path" 809), (s "/claim/cut.py" 810), (i 328 0), (i 2 0), (i 0 0), (i 0 0), (i 3 0), (r 338), tt, (i 181 0), (r 339), nn, (r 340), (r 341), (r 342), (i 814 0), (i 328 0), (s "/claim/cut.py" 815)]), #[]⟩
noncomputable def o344 (_ : Params) : Obj := fo (T "function") (fd (at_ 100) "get_path" 3 nn nn nn (s "framerune.values" 702) (r 343) nn 0)
noncomputable def o345 (_ : Params) : Obj := te
noncomputable def o346 (_ : Params) : Obj := ⟨(T "builtin_function_or_method"), none, .fields (fA [(B "type.__prepare__"), (T "type")]), #[]⟩
noncomputable def o347 (P : Params) : Obj := ⟨(T "dict"), none, .dict (dA [(k P "__module__" 826 (s "framerune.sourcecore" 817)), (k P "__qualname__" 828 (s "Item" 827)), (k P "__firstlineno__" 830 (i 335 829)), (k P "__init__" 840 (r 358)), (k P "__static_attributes__" 848 (r 359))]) 5, #[]⟩
noncomputable def o348 (_ : Params) : Obj := te
noncomputable def o349 (_ : Params) : Obj := ft [337, 4, 357]
noncomputable def o350 (_ : Params) : Obj := ⟨(T "code"), none, .fields (fA [(s "Item" 821), (s "Item" 822), (s "/claim/cut.py" 823), (i 335 0), (i 0 0), (i 0 0), (i 0 0), (i 0 0), (r 348), ff, (i 181 0), (r 349), nn, nn, nn, nn, (i 824 0), (i 335 0), (s "/claim/cut.py" 825)]), #[]⟩
noncomputable def o351 (_ : Params) : Obj := ⟨(T "frame"), none, .plain, #[some (r 350), some (r 3), some (r 347), none, some (s "framerune.sourcecore" 817), none, some (r 0)]⟩
noncomputable def o352 (_ : Params) : Obj := te
noncomputable def o353 (_ : Params) : Obj := ft []
noncomputable def o354 (_ : Params) : Obj := tn ["self", "number", "kind", "slots"] 834
noncomputable def o355 (_ : Params) : Obj := te
noncomputable def o356 (_ : Params) : Obj := fo nn (fd (in_ 102 0) "Item.__init__" 0 nn nn nn nn nn nn 0)
noncomputable def o357 (_ : Params) : Obj := ⟨(T "code"), none, .fields (fA [(s "__init__" 831), (s "Item.__init__" 832), (s "/claim/cut.py" 833), (i 337 0), (i 4 0), (i 0 0), (i 0 0), (i 3 0), (r 352), tt, (i 181 0), (r 353), nn, (r 354), (r 355), (r 356), (i 838 0), (i 337 0), (s "/claim/cut.py" 839)]), #[]⟩
noncomputable def o358 (_ : Params) : Obj := fo (T "function") (fd (in_ 102 0) "Item.__init__" 3 nn nn nn (s "framerune.sourcecore" 817) (r 357) nn 0)
noncomputable def o359 (_ : Params) : Obj := tn ["kind", "number", "rows", "slots", "special", "text", "version"] 841
noncomputable def o360 (P : Params) : Obj := ⟨(T "dict"), none, .dict (dA [(k P "__module__" 826 (s "framerune.sourcecore" 817)), (k P "__firstlineno__" 830 (i 335 829)), (k P "__init__" 840 (r 358)), (k P "__static_attributes__" 848 (r 359)), (k P "__dict__" 850 (r 362)), (k P "__weakref__" 852 (r 363)), (k P "__doc__" 853 nn)]) 4, #[]⟩
noncomputable def o361 (_ : Params) : Obj := ⟨(T "type"), none, .cls (cd "Item" [(T "object")] [(r 361), (T "object")] 360 "Item" true []), #[none, none, some (s "Item" 819), some (s "Item" 827), some (B "object.__new__"), some tt]⟩
noncomputable def o362 (_ : Params) : Obj := ⟨(T "getset_descriptor"), none, .fields (fA [(s "__dict__" 849), (r 361), (B "function.__dict__"), (B "function.__dict__#set")]), #[]⟩
noncomputable def o363 (_ : Params) : Obj := ⟨(T "getset_descriptor"), none, .fields (fA [(s "__weakref__" 851), (r 361), (B "ExceptionGroup.__weakref__"), nn]), #[]⟩
noncomputable def o364 (_ : Params) : Obj := ⟨(T "super"), none, .fields (fA [(r 361), (r 361), (r 361)]), #[]⟩
noncomputable def o365 (_ : Params) : Obj := ⟨(T "builtin_function_or_method"), none, .fields (fA [(B "object.__init_subclass__"), (r 361)]), #[]⟩
noncomputable def o366 (_ : Params) : Obj := te
noncomputable def o367 (_ : Params) : Obj := ⟨(T "builtin_function_or_method"), none, .fields (fA [(B "type.__prepare__"), (T "type")]), #[]⟩
noncomputable def o368 (P : Params) : Obj := ⟨(T "dict"), none, .dict (dA [(k P "__module__" 863 (s "framerune.sourcecore" 817)), (k P "__qualname__" 865 (s "CoreEval" 864)), (k P "__firstlineno__" 867 (i 345 866)), (k P "call" 878 (r 379)), (k P "__static_attributes__" 879 (r 380))]) 5, #[]⟩
noncomputable def o369 (_ : Params) : Obj := te
noncomputable def o370 (_ : Params) : Obj := ft [347, 4, 378]
noncomputable def o371 (_ : Params) : Obj := ⟨(T "code"), none, .fields (fA [(s "CoreEval" 858), (s "CoreEval" 859), (s "/claim/cut.py" 860), (i 345 0), (i 0 0), (i 0 0), (i 0 0), (i 0 0), (r 369), ff, (i 181 0), (r 370), nn, nn, nn, nn, (i 861 0), (i 345 0), (s "/claim/cut.py" 862)]), #[]⟩
noncomputable def o372 (_ : Params) : Obj := ⟨(T "frame"), none, .plain, #[some (r 371), some (r 3), some (r 368), none, some (s "framerune.sourcecore" 817), none, some (r 0)]⟩
noncomputable def o373 (_ : Params) : Obj := te
noncomputable def o374 (_ : Params) : Obj := ft []
noncomputable def o375 (_ : Params) : Obj := tn ["self", "ev", "mref", "this", "args"] 871
noncomputable def o376 (_ : Params) : Obj := te
noncomputable def o377 (_ : Params) : Obj := fo nn (fd (in_ 103 0) "CoreEval.call" 0 nn nn nn nn nn nn 0)
noncomputable def o378 (_ : Params) : Obj := ⟨(T "code"), none, .fields (fA [(s "call" 868), (s "CoreEval.call" 869), (s "/claim/cut.py" 870), (i 347 0), (i 5 0), (i 0 0), (i 0 0), (i 3 0), (r 373), tt, (i 181 0), (r 374), nn, (r 375), (r 376), (r 377), (i 876 0), (i 347 0), (s "/claim/cut.py" 877)]), #[]⟩
noncomputable def o379 (_ : Params) : Obj := fo (T "function") (fd (in_ 103 0) "CoreEval.call" 3 nn nn nn (s "framerune.sourcecore" 817) (r 378) nn 0)
noncomputable def o380 (_ : Params) : Obj := te
noncomputable def o381 (P : Params) : Obj := ⟨(T "dict"), none, .dict (dA [(k P "__module__" 863 (s "framerune.sourcecore" 817)), (k P "__firstlineno__" 867 (i 345 866)), (k P "call" 878 (r 379)), (k P "__static_attributes__" 879 (r 380)), (k P "__dict__" 881 (r 383)), (k P "__weakref__" 883 (r 384)), (k P "__doc__" 884 nn)]) 4, #[]⟩
noncomputable def o382 (_ : Params) : Obj := ⟨(T "type"), none, .cls (cd "CoreEval" [(T "object")] [(r 382), (T "object")] 381 "CoreEval" true [(r 620), (r 646), (r 672), (r 698)]), #[none, none, some (s "CoreEval" 856), some (s "CoreEval" 864), some (B "object.__new__"), some tt]⟩
noncomputable def o383 (_ : Params) : Obj := ⟨(T "getset_descriptor"), none, .fields (fA [(s "__dict__" 880), (r 382), (B "function.__dict__"), (B "function.__dict__#set")]), #[]⟩
noncomputable def o384 (_ : Params) : Obj := ⟨(T "getset_descriptor"), none, .fields (fA [(s "__weakref__" 882), (r 382), (B "ExceptionGroup.__weakref__"), nn]), #[]⟩
noncomputable def o385 (_ : Params) : Obj := ⟨(T "super"), none, .fields (fA [(r 382), (r 382), (r 382)]), #[]⟩
noncomputable def o386 (_ : Params) : Obj := ⟨(T "builtin_function_or_method"), none, .fields (fA [(B "object.__init_subclass__"), (r 382)]), #[]⟩
noncomputable def o387 (_ : Params) : Obj := te
noncomputable def o388 (_ : Params) : Obj := ⟨(T "builtin_function_or_method"), none, .fields (fA [(B "type.__prepare__"), (T "type")]), #[]⟩
noncomputable def o389 (P : Params) : Obj := ⟨(T "dict"), none, .dict (dA [(k P "__module__" 894 (s "framerune.sourcecore" 817)), (k P "__qualname__" 896 (s "Splits" 895)), (k P "__firstlineno__" 898 (i 349 897)), (k P "ready" 907 (r 400)), (k P "__static_attributes__" 908 (r 401))]) 5, #[]⟩
noncomputable def o390 (_ : Params) : Obj := te
noncomputable def o391 (_ : Params) : Obj := ft [351, 4, 399]
noncomputable def o392 (_ : Params) : Obj := ⟨(T "code"), none, .fields (fA [(s "Splits" 889), (s "Splits" 890), (s "/claim/cut.py" 891), (i 349 0), (i 0 0), (i 0 0), (i 0 0), (i 0 0), (r 390), ff, (i 181 0), (r 391), nn, nn, nn, nn, (i 892 0), (i 349 0), (s "/claim/cut.py" 893)]), #[]⟩
noncomputable def o393 (_ : Params) : Obj := ⟨(T "frame"), none, .plain, #[some (r 392), some (r 3), some (r 389), none, some (s "framerune.sourcecore" 817), none, some (r 0)]⟩
noncomputable def o394 (_ : Params) : Obj := te
noncomputable def o395 (_ : Params) : Obj := ft []
noncomputable def o396 (_ : Params) : Obj := tn ["self", "ev", "body"] 902
noncomputable def o397 (_ : Params) : Obj := te
noncomputable def o398 (_ : Params) : Obj := fo nn (fd (in_ 104 0) "Splits.ready" 0 nn nn nn nn nn nn 0)
noncomputable def o399 (_ : Params) : Obj := ⟨(T "code"), none, .fields (fA [(s "ready" 899), (s "Splits.ready" 900), (s "/claim/cut.py" 901), (i 351 0), (i 3 0), (i 0 0), (i 0 0), (i 3 0), (r 394), tt, (i 181 0), (r 395), nn, (r 396), (r 397), (r 398), (i 905 0), (i 351 0), (s "/claim/cut.py" 906)]), #[]⟩
noncomputable def o400 (_ : Params) : Obj := fo (T "function") (fd (in_ 104 0) "Splits.ready" 3 nn nn nn (s "framerune.sourcecore" 817) (r 399) nn 0)
noncomputable def o401 (_ : Params) : Obj := te
noncomputable def o402 (P : Params) : Obj := ⟨(T "dict"), none, .dict (dA [(k P "__module__" 894 (s "framerune.sourcecore" 817)), (k P "__firstlineno__" 898 (i 349 897)), (k P "ready" 907 (r 400)), (k P "__static_attributes__" 908 (r 401)), (k P "__dict__" 910 (r 404)), (k P "__weakref__" 912 (r 405)), (k P "__doc__" 913 nn)]) 4, #[]⟩
noncomputable def o403 (_ : Params) : Obj := ⟨(T "type"), none, .cls (cd "Splits" [(T "object")] [(r 403), (T "object")] 402 "Splits" true []), #[none, none, some (s "Splits" 887), some (s "Splits" 895), some (B "object.__new__"), some tt]⟩
noncomputable def o404 (_ : Params) : Obj := ⟨(T "getset_descriptor"), none, .fields (fA [(s "__dict__" 909), (r 403), (B "function.__dict__"), (B "function.__dict__#set")]), #[]⟩
noncomputable def o405 (_ : Params) : Obj := ⟨(T "getset_descriptor"), none, .fields (fA [(s "__weakref__" 911), (r 403), (B "ExceptionGroup.__weakref__"), nn]), #[]⟩
noncomputable def o406 (_ : Params) : Obj := ⟨(T "super"), none, .fields (fA [(r 403), (r 403), (r 403)]), #[]⟩
noncomputable def o407 (_ : Params) : Obj := ⟨(T "builtin_function_or_method"), none, .fields (fA [(B "object.__init_subclass__"), (r 403)]), #[]⟩
noncomputable def o408 (_ : Params) : Obj := te
noncomputable def o409 (_ : Params) : Obj := ⟨(T "builtin_function_or_method"), none, .fields (fA [(B "type.__prepare__"), (T "type")]), #[]⟩
noncomputable def o410 (P : Params) : Obj := ⟨(T "dict"), none, .dict (dA [(k P "__module__" 923 (s "framerune.sourcecore" 817)), (k P "__qualname__" 925 (s "Begins" 924)), (k P "__firstlineno__" 927 (i 353 926)), (k P "begin" 937 (r 421)), (k P "__static_attributes__" 938 (r 422))]) 5, #[]⟩
noncomputable def o411 (_ : Params) : Obj := te
noncomputable def o412 (_ : Params) : Obj := ft [355, 4, 420]
noncomputable def o413 (_ : Params) : Obj := ⟨(T "code"), none, .fields (fA [(s "Begins" 918), (s "Begins" 919), (s "/claim/cut.py" 920), (i 353 0), (i 0 0), (i 0 0), (i 0 0), (i 0 0), (r 411), ff, (i 181 0), (r 412), nn, nn, nn, nn, (i 921 0), (i 353 0), (s "/claim/cut.py" 922)]), #[]⟩
noncomputable def o414 (_ : Params) : Obj := ⟨(T "frame"), none, .plain, #[some (r 413), some (r 3), some (r 410), none, some (s "framerune.sourcecore" 817), none, some (r 0)]⟩
noncomputable def o415 (_ : Params) : Obj := te
noncomputable def o416 (_ : Params) : Obj := ft []
noncomputable def o417 (_ : Params) : Obj := tn ["self", "ev", "owner", "why"] 931
noncomputable def o418 (_ : Params) : Obj := te
noncomputable def o419 (_ : Params) : Obj := fo nn (fd (in_ 105 0) "Begins.begin" 0 nn nn nn nn nn nn 0)
noncomputable def o420 (_ : Params) : Obj := ⟨(T "code"), none, .fields (fA [(s "begin" 928), (s "Begins.begin" 929), (s "/claim/cut.py" 930), (i 355 0), (i 4 0), (i 0 0), (i 0 0), (i 3 0), (r 415), tt, (i 181 0), (r 416), nn, (r 417), (r 418), (r 419), (i 935 0), (i 355 0), (s "/claim/cut.py" 936)]), #[]⟩
noncomputable def o421 (_ : Params) : Obj := fo (T "function") (fd (in_ 105 0) "Begins.begin" 3 nn nn nn (s "framerune.sourcecore" 817) (r 420) nn 0)
noncomputable def o422 (_ : Params) : Obj := te
noncomputable def o423 (P : Params) : Obj := ⟨(T "dict"), none, .dict (dA [(k P "__module__" 923 (s "framerune.sourcecore" 817)), (k P "__firstlineno__" 927 (i 353 926)), (k P "begin" 937 (r 421)), (k P "__static_attributes__" 938 (r 422)), (k P "__dict__" 940 (r 425)), (k P "__weakref__" 942 (r 426)), (k P "__doc__" 943 nn)]) 4, #[]⟩
noncomputable def o424 (_ : Params) : Obj := ⟨(T "type"), none, .cls (cd "Begins" [(T "object")] [(r 424), (T "object")] 423 "Begins" true []), #[none, none, some (s "Begins" 916), some (s "Begins" 924), some (B "object.__new__"), some tt]⟩
noncomputable def o425 (_ : Params) : Obj := ⟨(T "getset_descriptor"), none, .fields (fA [(s "__dict__" 939), (r 424), (B "function.__dict__"), (B "function.__dict__#set")]), #[]⟩
noncomputable def o426 (_ : Params) : Obj := ⟨(T "getset_descriptor"), none, .fields (fA [(s "__weakref__" 941), (r 424), (B "ExceptionGroup.__weakref__"), nn]), #[]⟩
noncomputable def o427 (_ : Params) : Obj := ⟨(T "super"), none, .fields (fA [(r 424), (r 424), (r 424)]), #[]⟩
noncomputable def o428 (_ : Params) : Obj := ⟨(T "builtin_function_or_method"), none, .fields (fA [(B "object.__init_subclass__"), (r 424)]), #[]⟩
noncomputable def o429 (_ : Params) : Obj := te
noncomputable def o430 (_ : Params) : Obj := ⟨(T "builtin_function_or_method"), none, .fields (fA [(B "type.__prepare__"), (T "type")]), #[]⟩
noncomputable def o431 (P : Params) : Obj := ⟨(T "dict"), none, .dict (dA [(k P "__module__" 953 (s "framerune.sourcecore" 817)), (k P "__qualname__" 955 (s "Calls" 954)), (k P "__firstlineno__" 957 (i 357 956)), (k P "__init__" 965 (r 442)), (k P "goal" 975 (r 449)), (k P "__static_attributes__" 977 (r 450))]) 6, #[]⟩
noncomputable def o432 (_ : Params) : Obj := te
noncomputable def o433 (_ : Params) : Obj := ft [359, 4, 441, 362, 4, 448]
noncomputable def o434 (_ : Params) : Obj := ⟨(T "code"), none, .fields (fA [(s "Calls" 948), (s "Calls" 949), (s "/claim/cut.py" 950), (i 357 0), (i 0 0), (i 0 0), (i 0 0), (i 0 0), (r 432), ff, (i 181 0), (r 433), nn, nn, nn, nn, (i 951 0), (i 357 0), (s "/claim/cut.py" 952)]), #[]⟩
noncomputable def o435 (_ : Params) : Obj := ⟨(T "frame"), none, .plain, #[some (r 434), some (r 3), some (r 431), none, some (s "framerune.sourcecore" 817), none, some (r 0)]⟩
noncomputable def o436 (_ : Params) : Obj := te
noncomputable def o437 (_ : Params) : Obj := ft []
noncomputable def o438 (_ : Params) : Obj := tn ["self", "rows"] 961
noncomputable def o439 (_ : Params) : Obj := te
noncomputable def o440 (_ : Params) : Obj := fo nn (fd (in_ 106 0) "Calls.__init__" 0 nn nn nn nn nn nn 0)
noncomputable def o441 (_ : Params) : Obj := ⟨(T "code"), none, .fields (fA [(s "__init__" 958), (s "Calls.__init__" 959), (s "/claim/cut.py" 960), (i 359 0), (i 2 0), (i 0 0), (i 0 0), (i 3 0), (r 436), tt, (i 181 0), (r 437), nn, (r 438), (r 439), (r 440), (i 963 0), (i 359 0), (s "/claim/cut.py" 964)]), #[]⟩
noncomputable def o442 (_ : Params) : Obj := fo (T "function") (fd (in_ 106 0) "Calls.__init__" 3 nn nn nn (s "framerune.sourcecore" 817) (r 441) nn 0)
noncomputable def o443 (_ : Params) : Obj := te
noncomputable def o444 (_ : Params) : Obj := ft []
noncomputable def o445 (_ : Params) : Obj := tn ["self", "ev", "k", "mref"] 969
noncomputable def o446 (_ : Params) : Obj := te
noncomputable def o447 (_ : Params) : Obj := fo nn (fd (in_ 106 1) "Calls.goal" 0 nn nn nn nn nn nn 0)
noncomputable def o448 (_ : Params) : Obj := ⟨(T "code"), none, .fields (fA [(s "goal" 966), (s "Calls.goal" 967), (s "/claim/cut.py" 968), (i 362 0), (i 4 0), (i 0 0), (i 0 0), (i 3 0), (r 443), tt, (i 181 0), (r 444), nn, (r 445), (r 446), (r 447), (i 973 0), (i 362 0), (s "/claim/cut.py" 974)]), #[]⟩
noncomputable def o449 (_ : Params) : Obj := fo (T "function") (fd (in_ 106 1) "Calls.goal" 3 nn nn nn (s "framerune.sourcecore" 817) (r 448) nn 0)
noncomputable def o450 (_ : Params) : Obj := tn ["rows"] 976
noncomputable def o451 (P : Params) : Obj := ⟨(T "dict"), none, .dict (dA [(k P "__module__" 953 (s "framerune.sourcecore" 817)), (k P "__firstlineno__" 957 (i 357 956)), (k P "__init__" 965 (r 442)), (k P "goal" 975 (r 449)), (k P "__static_attributes__" 977 (r 450)), (k P "__dict__" 979 (r 453)), (k P "__weakref__" 981 (r 454)), (k P "__doc__" 982 nn)]) 4, #[]⟩
noncomputable def o452 (_ : Params) : Obj := ⟨(T "type"), none, .cls (cd "Calls" [(T "object")] [(r 452), (T "object")] 451 "Calls" true []), #[none, none, some (s "Calls" 946), some (s "Calls" 954), some (B "object.__new__"), some tt]⟩
noncomputable def o453 (_ : Params) : Obj := ⟨(T "getset_descriptor"), none, .fields (fA [(s "__dict__" 978), (r 452), (B "function.__dict__"), (B "function.__dict__#set")]), #[]⟩
noncomputable def o454 (_ : Params) : Obj := ⟨(T "getset_descriptor"), none, .fields (fA [(s "__weakref__" 980), (r 452), (B "ExceptionGroup.__weakref__"), nn]), #[]⟩
noncomputable def o455 (_ : Params) : Obj := ⟨(T "super"), none, .fields (fA [(r 452), (r 452), (r 452)]), #[]⟩
noncomputable def o456 (_ : Params) : Obj := ⟨(T "builtin_function_or_method"), none, .fields (fA [(B "object.__init_subclass__"), (r 452)]), #[]⟩
noncomputable def o457 (_ : Params) : Obj := te
noncomputable def o458 (_ : Params) : Obj := ⟨(T "builtin_function_or_method"), none, .fields (fA [(B "type.__prepare__"), (T "type")]), #[]⟩
noncomputable def o459 (P : Params) : Obj := ⟨(T "dict"), none, .dict (dA [(k P "__module__" 992 (s "framerune.sourcecore" 817)), (k P "__qualname__" 994 (s "Plot" 993)), (k P "__firstlineno__" 996 (i 364 995)), (k P "__init__" 1005 (r 470)), (k P "is_a" 1014 (r 477)), (k P "closed" 1023 (r 484)), (k P "closed_ref" 1032 (r 491)), (k P "first" 1040 (r 498)), (k P "asked" 1048 (r 505)), (k P "error" 1057 (r 512)), (k P "type_item" 1065 (r 519)), (k P "seen_as" 1074 (r 526)), (k P "__static_attributes__" 1099 (r 527))]) 13, #[]⟩
noncomputable def o460 (_ : Params) : Obj := te
noncomputable def o461 (_ : Params) : Obj := ft [366, 4, 469, 392, 4, 476, 395, 4, 483, 398, 4, 490, 401, 4, 497, 404, 4, 504, 407, 4, 511, 410, 4, 518, 413, 4, 525]
noncomputable def o462 (_ : Params) : Obj := ⟨(T "code"), none, .fields (fA [(s "Plot" 987), (s "Plot" 988), (s "/claim/cut.py" 989), (i 364 0), (i 0 0), (i 0 0), (i 0 0), (i 0 0), (r 460), ff, (i 181 0), (r 461), nn, nn, nn, nn, (i 990 0), (i 364 0), (s "/claim/cut.py" 991)]), #[]⟩
noncomputable def o463 (_ : Params) : Obj := ⟨(T "frame"), none, .plain, #[some (r 462), some (r 3), some (r 459), none, some (s "framerune.sourcecore" 817), none, some (r 0)]⟩
noncomputable def o464 (_ : Params) : Obj := te
noncomputable def o465 (_ : Params) : Obj := ft []
noncomputable def o466 (_ : Params) : Obj := tn ["self", "unit", "most"] 1000
noncomputable def o467 (_ : Params) : Obj := te
noncomputable def o468 (_ : Params) : Obj := fo nn (fd (in_ 107 0) "Plot.__init__" 0 nn nn nn nn nn nn 0)
noncomputable def o469 (_ : Params) : Obj := ⟨(T "code"), none, .fields (fA [(s "__init__" 997), (s "Plot.__init__" 998), (s "/claim/cut.py" 999), (i 366 0), (i 3 0), (i 0 0), (i 0 0), (i 3 0), (r 464), tt, (i 181 0), (r 465), nn, (r 466), (r 467), (r 468), (i 1003 0), (i 366 0), (s "/claim/cut.py" 1004)]), #[]⟩
noncomputable def o470 (_ : Params) : Obj := fo (T "function") (fd (in_ 107 0) "Plot.__init__" 3 nn nn nn (s "framerune.sourcecore" 817) (r 469) nn 0)
noncomputable def o471 (_ : Params) : Obj := te
noncomputable def o472 (_ : Params) : Obj := ft []
noncomputable def o473 (_ : Params) : Obj := tn ["self", "exact", "k"] 1009
noncomputable def o474 (_ : Params) : Obj := te
noncomputable def o475 (_ : Params) : Obj := fo nn (fd (in_ 107 1) "Plot.is_a" 0 nn nn nn nn nn nn 0)
noncomputable def o476 (_ : Params) : Obj := ⟨(T "code"), none, .fields (fA [(s "is_a" 1006), (s "Plot.is_a" 1007), (s "/claim/cut.py" 1008), (i 392 0), (i 3 0), (i 0 0), (i 0 0), (i 3 0), (r 471), tt, (i 181 0), (r 472), nn, (r 473), (r 474), (r 475), (i 1012 0), (i 392 0), (s "/claim/cut.py" 1013)]), #[]⟩
noncomputable def o477 (_ : Params) : Obj := fo (T "function") (fd (in_ 107 1) "Plot.is_a" 3 nn nn nn (s "framerune.sourcecore" 817) (r 476) nn 0)
noncomputable def o478 (_ : Params) : Obj := te
noncomputable def o479 (_ : Params) : Obj := ft []
noncomputable def o480 (_ : Params) : Obj := tn ["self", "act", "k"] 1018
noncomputable def o481 (_ : Params) : Obj := te
noncomputable def o482 (_ : Params) : Obj := fo nn (fd (in_ 107 2) "Plot.closed" 0 nn nn nn nn nn nn 0)
noncomputable def o483 (_ : Params) : Obj := ⟨(T "code"), none, .fields (fA [(s "closed" 1015), (s "Plot.closed" 1016), (s "/claim/cut.py" 1017), (i 395 0), (i 3 0), (i 0 0), (i 0 0), (i 3 0), (r 478), tt, (i 181 0), (r 479), nn, (r 480), (r 481), (r 482), (i 1021 0), (i 395 0), (s "/claim/cut.py" 1022)]), #[]⟩
noncomputable def o484 (_ : Params) : Obj := fo (T "function") (fd (in_ 107 2) "Plot.closed" 3 nn nn nn (s "framerune.sourcecore" 817) (r 483) nn 0)
noncomputable def o485 (_ : Params) : Obj := te
noncomputable def o486 (_ : Params) : Obj := ft []
noncomputable def o487 (_ : Params) : Obj := tn ["self", "act", "mref"] 1027
noncomputable def o488 (_ : Params) : Obj := te
noncomputable def o489 (_ : Params) : Obj := fo nn (fd (in_ 107 3) "Plot.closed_ref" 0 nn nn nn nn nn nn 0)
noncomputable def o490 (_ : Params) : Obj := ⟨(T "code"), none, .fields (fA [(s "closed_ref" 1024), (s "Plot.closed_ref" 1025), (s "/claim/cut.py" 1026), (i 398 0), (i 3 0), (i 0 0), (i 0 0), (i 3 0), (r 485), tt, (i 181 0), (r 486), nn, (r 487), (r 488), (r 489), (i 1030 0), (i 398 0), (s "/claim/cut.py" 1031)]), #[]⟩
noncomputable def o491 (_ : Params) : Obj := fo (T "function") (fd (in_ 107 3) "Plot.closed_ref" 3 nn nn nn (s "framerune.sourcecore" 817) (r 490) nn 0)
noncomputable def o492 (_ : Params) : Obj := te
noncomputable def o493 (_ : Params) : Obj := ft []
noncomputable def o494 (_ : Params) : Obj := tn ["self", "k"] 1036
noncomputable def o495 (_ : Params) : Obj := te
noncomputable def o496 (_ : Params) : Obj := fo nn (fd (in_ 107 4) "Plot.first" 0 nn nn nn nn nn nn 0)
noncomputable def o497 (_ : Params) : Obj := ⟨(T "code"), none, .fields (fA [(s "first" 1033), (s "Plot.first" 1034), (s "/claim/cut.py" 1035), (i 401 0), (i 2 0), (i 0 0), (i 0 0), (i 3 0), (r 492), tt, (i 181 0), (r 493), nn, (r 494), (r 495), (r 496), (i 1038 0), (i 401 0), (s "/claim/cut.py" 1039)]), #[]⟩
noncomputable def o498 (_ : Params) : Obj := fo (T "function") (fd (in_ 107 4) "Plot.first" 3 nn nn nn (s "framerune.sourcecore" 817) (r 497) nn 0)
noncomputable def o499 (_ : Params) : Obj := te
noncomputable def o500 (_ : Params) : Obj := ft []
noncomputable def o501 (_ : Params) : Obj := tn ["self", "k"] 1044
noncomputable def o502 (_ : Params) : Obj := te
noncomputable def o503 (_ : Params) : Obj := fo nn (fd (in_ 107 5) "Plot.asked" 0 nn nn nn nn nn nn 0)
noncomputable def o504 (_ : Params) : Obj := ⟨(T "code"), none, .fields (fA [(s "asked" 1041), (s "Plot.asked" 1042), (s "/claim/cut.py" 1043), (i 404 0), (i 2 0), (i 0 0), (i 0 0), (i 3 0), (r 499), tt, (i 181 0), (r 500), nn, (r 501), (r 502), (r 503), (i 1046 0), (i 404 0), (s "/claim/cut.py" 1047)]), #[]⟩
noncomputable def o505 (_ : Params) : Obj := fo (T "function") (fd (in_ 107 5) "Plot.asked" 3 nn nn nn (s "framerune.sourcecore" 817) (r 504) nn 0)
noncomputable def o506 (_ : Params) : Obj := te
noncomputable def o507 (_ : Params) : Obj := ft []
noncomputable def o508 (_ : Params) : Obj := tn ["self", "tid", "text"] 1052
noncomputable def o509 (_ : Params) : Obj := te
noncomputable def o510 (_ : Params) : Obj := fo nn (fd (in_ 107 6) "Plot.error" 0 nn nn nn nn nn nn 0)
noncomputable def o511 (_ : Params) : Obj := ⟨(T "code"), none, .fields (fA [(s "error" 1049), (s "Plot.error" 1050), (s "/claim/cut.py" 1051), (i 407 0), (i 3 0), (i 0 0), (i 0 0), (i 3 0), (r 506), tt, (i 181 0), (r 507), nn, (r 508), (r 509), (r 510), (i 1055 0), (i 407 0), (s "/claim/cut.py" 1056)]), #[]⟩
noncomputable def o512 (_ : Params) : Obj := fo (T "function") (fd (in_ 107 6) "Plot.error" 3 nn nn nn (s "framerune.sourcecore" 817) (r 511) nn 0)
noncomputable def o513 (_ : Params) : Obj := te
noncomputable def o514 (_ : Params) : Obj := ft []
noncomputable def o515 (_ : Params) : Obj := tn ["self", "k"] 1061
noncomputable def o516 (_ : Params) : Obj := te
noncomputable def o517 (_ : Params) : Obj := fo nn (fd (in_ 107 7) "Plot.type_item" 0 nn nn nn nn nn nn 0)
noncomputable def o518 (_ : Params) : Obj := ⟨(T "code"), none, .fields (fA [(s "type_item" 1058), (s "Plot.type_item" 1059), (s "/claim/cut.py" 1060), (i 410 0), (i 2 0), (i 0 0), (i 0 0), (i 3 0), (r 513), tt, (i 181 0), (r 514), nn, (r 515), (r 516), (r 517), (i 1063 0), (i 410 0), (s "/claim/cut.py" 1064)]), #[]⟩
noncomputable def o519 (_ : Params) : Obj := fo (T "function") (fd (in_ 107 7) "Plot.type_item" 3 nn nn nn (s "framerune.sourcecore" 817) (r 518) nn 0)
noncomputable def o520 (_ : Params) : Obj := te
noncomputable def o521 (_ : Params) : Obj := ft []
noncomputable def o522 (_ : Params) : Obj := tn ["self", "k", "value"] 1069
noncomputable def o523 (_ : Params) : Obj := te
noncomputable def o524 (_ : Params) : Obj := fo nn (fd (in_ 107 8) "Plot.seen_as" 0 nn nn nn nn nn nn 0)
noncomputable def o525 (_ : Params) : Obj := ⟨(T "code"), none, .fields (fA [(s "seen_as" 1066), (s "Plot.seen_as" 1067), (s "/claim/cut.py" 1068), (i 413 0), (i 3 0), (i 0 0), (i 0 0), (i 3 0), (r 520), tt, (i 181 0), (r 521), nn, (r 522), (r 523), (r 524), (i 1072 0), (i 413 0), (s "/claim/cut.py" 1073)]), #[]⟩
noncomputable def o526 (_ : Params) : Obj := fo (T "function") (fd (in_ 107 8) "Plot.seen_as" 3 nn nn nn (s "framerune.sourcecore" 817) (r 525) nn 0)
noncomputable def o527 (_ : Params) : Obj := tn ["begins", "blocks", "calls", "core", "cut_bodies", "cuts", "depth", "exprs", "guards", "kin", "kt", "most", "nested", "places", "serial", "splits", "starts", "steps", "stmts", "store", "targets", "texts", "things", "unit"] 1075
noncomputable def o528 (P : Params) : Obj := ⟨(T "dict"), none, .dict (dA [(k P "__module__" 992 (s "framerune.sourcecore" 817)), (k P "__firstlineno__" 996 (i 364 995)), (k P "__init__" 1005 (r 470)), (k P "is_a" 1014 (r 477)), (k P "closed" 1023 (r 484)), (k P "closed_ref" 1032 (r 491)), (k P "first" 1040 (r 498)), (k P "asked" 1048 (r 505)), (k P "error" 1057 (r 512)), (k P "type_item" 1065 (r 519)), (k P "seen_as" 1074 (r 526)), (k P "__static_attributes__" 1099 (r 527)), (k P "__dict__" 1101 (r 530)), (k P "__weakref__" 1103 (r 531)), (k P "__doc__" 1104 nn)]) 4, #[]⟩
noncomputable def o529 (_ : Params) : Obj := ⟨(T "type"), none, .cls (cd "Plot" [(T "object")] [(r 529), (T "object")] 528 "Plot" true [(r 1316)]), #[none, none, some (s "Plot" 985), some (s "Plot" 993), some (B "object.__new__"), some tt]⟩
noncomputable def o530 (_ : Params) : Obj := ⟨(T "getset_descriptor"), none, .fields (fA [(s "__dict__" 1100), (r 529), (B "function.__dict__"), (B "function.__dict__#set")]), #[]⟩
noncomputable def o531 (_ : Params) : Obj := ⟨(T "getset_descriptor"), none, .fields (fA [(s "__weakref__" 1102), (r 529), (B "ExceptionGroup.__weakref__"), nn]), #[]⟩
noncomputable def o532 (_ : Params) : Obj := ⟨(T "super"), none, .fields (fA [(r 529), (r 529), (r 529)]), #[]⟩
noncomputable def o533 (_ : Params) : Obj := ⟨(T "builtin_function_or_method"), none, .fields (fA [(B "object.__init_subclass__"), (r 529)]), #[]⟩
noncomputable def o534 (_ : Params) : Obj := te
noncomputable def o535 (_ : Params) : Obj := ft []
noncomputable def o536 (_ : Params) : Obj := tn ["ev", "k"] 1110
noncomputable def o537 (_ : Params) : Obj := te
noncomputable def o538 (_ : Params) : Obj := fo nn (fd (at_ 108) "layout_in" 0 nn nn nn nn nn nn 0)
noncomputable def o539 (_ : Params) : Obj := ⟨(T "code"), none, .fields (fA [(s "layout_in" 1107), (s "layout_in" 1108), (s "/claim/cut.py" 1109), (i 415 0), (i 2 0), (i 0 0), (i 0 0), (i 3 0), (r 534), tt, (i 181 0), (r 535), nn, (r 536), (r 537), (r 538), (i 1112 0), (i 415 0), (s "/claim/cut.py" 1113)]), #[]⟩
noncomputable def o540 (_ : Params) : Obj := fo (T "function") (fd (at_ 108) "layout_in" 3 nn nn nn (s "framerune.sourcecore" 817) (r 539) nn 0)
noncomputable def o541 (_ : Params) : Obj := te
noncomputable def o542 (_ : Params) : Obj := ft []
noncomputable def o543 (_ : Params) : Obj := tn ["ev", "k"] 1118
noncomputable def o544 (_ : Params) : Obj := te
noncomputable def o545 (_ : Params) : Obj := fo nn (fd (at_ 109) "is_question" 0 nn nn nn nn nn nn 0)
noncomputable def o546 (_ : Params) : Obj := ⟨(T "code"), none, .fields (fA [(s "is_question" 1115), (s "is_question" 1116), (s "/claim/cut.py" 1117), (i 417 0), (i 2 0), (i 0 0), (i 0 0), (i 3 0), (r 541), tt, (i 181 0), (r 542), nn, (r 543), (r 544), (r 545), (i 1120 0), (i 417 0), (s "/claim/cut.py" 1121)]), #[]⟩
noncomputable def o547 (_ : Params) : Obj := fo (T "function") (fd (at_ 109) "is_question" 3 nn nn nn (s "framerune.sourcecore" 817) (r 546) nn 0)
noncomputable def o548 (_ : Params) : Obj := te
noncomputable def o549 (_ : Params) : Obj := ft []
noncomputable def o550 (_ : Params) : Obj := tn ["ev", "kind", "slots", "number"] 1126
noncomputable def o551 (_ : Params) : Obj := te
noncomputable def o552 (_ : Params) : Obj := fo nn (fd (at_ 110) "new_item" 0 nn nn nn nn nn nn 0)
noncomputable def o553 (_ : Params) : Obj := ⟨(T "code"), none, .fields (fA [(s "new_item" 1123), (s "new_item" 1124), (s "/claim/cut.py" 1125), (i 419 0), (i 3 0), (i 0 0), (i 0 0), (i 3 0), (r 548), tt, (i 181 0), (r 549), nn, (r 550), (r 551), (r 552), (i 1130 0), (i 419 0), (s "/claim/cut.py" 1131)]), #[]⟩
noncomputable def o554 (_ : Params) : Obj := fo (T "function") (fd (at_ 110) "new_item" 3 nn nn nn (s "framerune.sourcecore" 817) (r 553) nn 0)
noncomputable def o555 (_ : Params) : Obj := te
noncomputable def o556 (_ : Params) : Obj := ft []
noncomputable def o557 (_ : Params) : Obj := tn ["ev", "text", "number"] 1136
noncomputable def o558 (_ : Params) : Obj := te
noncomputable def o559 (_ : Params) : Obj := fo nn (fd (at_ 111) "new_words" 0 nn nn nn nn nn nn 0)
noncomputable def o560 (_ : Params) : Obj := ⟨(T "code"), none, .fields (fA [(s "new_words" 1133), (s "new_words" 1134), (s "/claim/cut.py" 1135), (i 423 0), (i 2 0), (i 0 0), (i 0 0), (i 3 0), (r 555), tt, (i 181 0), (r 556), nn, (r 557), (r 558), (r 559), (i 1139 0), (i 423 0), (s "/claim/cut.py" 1140)]), #[]⟩
noncomputable def o561 (_ : Params) : Obj := fo (T "function") (fd (at_ 111) "new_words" 3 nn nn nn (s "framerune.sourcecore" 817) (r 560) nn 0)
noncomputable def o562 (_ : Params) : Obj := te
noncomputable def o563 (_ : Params) : Obj := ft []
noncomputable def o564 (_ : Params) : Obj := tn ["place", "value", "step"] 1147
noncomputable def o565 (_ : Params) : Obj := te
noncomputable def o566 (_ : Params) : Obj := fo nn (fd (at_ 113) "value_at" 0 nn nn nn nn nn nn 0)
noncomputable def o567 (_ : Params) : Obj := ⟨(T "code"), none, .fields (fA [(s "value_at" 1144), (s "value_at" 1145), (s "/claim/cut.py" 1146), (i 428 0), (i 1 0), (i 0 0), (i 0 0), (i 3 0), (r 562), tt, (i 181 0), (r 563), nn, (r 564), (r 565), (r 566), (i 1150 0), (i 428 0), (s "/claim/cut.py" 1151)]), #[]⟩
noncomputable def o568 (_ : Params) : Obj := fo (T "function") (fd (at_ 113) "value_at" 3 nn nn nn (s "framerune.sourcebox" 1142) (r 567) nn 0)
noncomputable def o569 (_ : Params) : Obj := te
noncomputable def o570 (_ : Params) : Obj := ft []
noncomputable def o571 (_ : Params) : Obj := tn ["yes"] 1158
noncomputable def o572 (_ : Params) : Obj := te
noncomputable def o573 (_ : Params) : Obj := fo nn (fd (at_ 115) "truth_of" 0 nn nn nn nn nn nn 0)
noncomputable def o574 (_ : Params) : Obj := ⟨(T "code"), none, .fields (fA [(s "truth_of" 1155), (s "truth_of" 1156), (s "/claim/cut.py" 1157), (i 434 0), (i 1 0), (i 0 0), (i 0 0), (i 3 0), (r 569), tt, (i 181 0), (r 570), nn, (r 571), (r 572), (r 573), (i 1159 0), (i 434 0), (s "/claim/cut.py" 1160)]), #[]⟩
noncomputable def o575 (_ : Params) : Obj := fo (T "function") (fd (at_ 115) "truth_of" 3 nn nn nn (s "framerune.sourcelib" 1153) (r 574) nn 0)
noncomputable def o576 (_ : Params) : Obj := te
noncomputable def o577 (_ : Params) : Obj := ft []
noncomputable def o578 (_ : Params) : Obj := tn ["k", "n"] 1165
noncomputable def o579 (_ : Params) : Obj := te
noncomputable def o580 (_ : Params) : Obj := fo nn (fd (at_ 116) "number_words" 0 nn nn nn nn nn nn 0)
noncomputable def o581 (_ : Params) : Obj := ⟨(T "code"), none, .fields (fA [(s "number_words" 1162), (s "number_words" 1163), (s "/claim/cut.py" 1164), (i 436 0), (i 2 0), (i 0 0), (i 0 0), (i 3 0), (r 576), tt, (i 181 0), (r 577), nn, (r 578), (r 579), (r 580), (i 1167 0), (i 436 0), (s "/claim/cut.py" 1168)]), #[]⟩
noncomputable def o582 (_ : Params) : Obj := fo (T "function") (fd (at_ 116) "number_words" 3 nn nn nn (s "framerune.sourcelib" 1153) (r 581) nn 0)
noncomputable def o583 (_ : Params) : Obj := te
noncomputable def o584 (_ : Params) : Obj := ft []
noncomputable def o585 (_ : Params) : Obj := tn ["a", "b"] 1173
noncomputable def o586 (_ : Params) : Obj := te
noncomputable def o587 (_ : Params) : Obj := fo nn (fd (at_ 117) "compare_of" 0 nn nn nn nn nn nn 0)
noncomputable def o588 (_ : Params) : Obj := ⟨(T "code"), none, .fields (fA [(s "compare_of" 1170), (s "compare_of" 1171), (s "/claim/cut.py" 1172), (i 442 0), (i 2 0), (i 0 0), (i 0 0), (i 3 0), (r 583), tt, (i 181 0), (r 584), nn, (r 585), (r 586), (r 587), (i 1175 0), (i 442 0), (s "/claim/cut.py" 1176)]), #[]⟩
noncomputable def o589 (_ : Params) : Obj := fo (T "function") (fd (at_ 117) "compare_of" 3 nn nn nn (s "framerune.sourcelib" 1153) (r 588) nn 0)
noncomputable def o590 (_ : Params) : Obj := te
noncomputable def o591 (_ : Params) : Obj := ft []
noncomputable def o592 (_ : Params) : Obj := tn ["ev", "k", "place"] 1181
noncomputable def o593 (_ : Params) : Obj := te
noncomputable def o594 (_ : Params) : Obj := fo nn (fd (at_ 118) "number_at" 0 nn nn nn nn nn nn 0)
noncomputable def o595 (_ : Params) : Obj := ⟨(T "code"), none, .fields (fA [(s "number_at" 1178), (s "number_at" 1179), (s "/claim/cut.py" 1180), (i 446 0), (i 3 0), (i 0 0), (i 0 0), (i 3 0), (r 590), tt, (i 181 0), (r 591), nn, (r 592), (r 593), (r 594), (i 1184 0), (i 446 0), (s "/claim/cut.py" 1185)]), #[]⟩
noncomputable def o596 (_ : Params) : Obj := fo (T "function") (fd (at_ 118) "number_at" 3 nn nn nn (s "framerune.sourcelib" 1153) (r 595) nn 0)
noncomputable def o597 (_ : Params) : Obj := tp [(r 382)]
noncomputable def o598 (_ : Params) : Obj := ⟨(T "builtin_function_or_method"), none, .fields (fA [(B "type.__prepare__"), (T "type")]), #[]⟩
noncomputable def o599 (P : Params) : Obj := ⟨(T "dict"), none, .dict (dA [(k P "__module__" 1194 (s "framerune.sourcelib" 1153)), (k P "__qualname__" 1196 (s "NumberWords" 1195)), (k P "__firstlineno__" 1198 (i 448 1197)), (k P "__init__" 1206 (r 610)), (k P "call" 1217 (r 617)), (k P "__static_attributes__" 1219 (r 618))]) 6, #[]⟩
noncomputable def o600 (_ : Params) : Obj := te
noncomputable def o601 (_ : Params) : Obj := ft [450, 4, 609, 453, 4, 616]
noncomputable def o602 (_ : Params) : Obj := ⟨(T "code"), none, .fields (fA [(s "NumberWords" 1189), (s "NumberWords" 1190), (s "/claim/cut.py" 1191), (i 448 0), (i 0 0), (i 0 0), (i 0 0), (i 0 0), (r 600), ff, (i 181 0), (r 601), nn, nn, nn, nn, (i 1192 0), (i 448 0), (s "/claim/cut.py" 1193)]), #[]⟩
noncomputable def o603 (_ : Params) : Obj := ⟨(T "frame"), none, .plain, #[some (r 602), some (r 3), some (r 599), none, some (s "framerune.sourcelib" 1153), none, some (r 0)]⟩
noncomputable def o604 (_ : Params) : Obj := te
noncomputable def o605 (_ : Params) : Obj := ft []
noncomputable def o606 (_ : Params) : Obj := tn ["self", "k"] 1202
noncomputable def o607 (_ : Params) : Obj := te
noncomputable def o608 (_ : Params) : Obj := fo nn (fd (in_ 119 0) "NumberWords.__init__" 0 nn nn nn nn nn nn 0)
noncomputable def o609 (_ : Params) : Obj := ⟨(T "code"), none, .fields (fA [(s "__init__" 1199), (s "NumberWords.__init__" 1200), (s "/claim/cut.py" 1201), (i 450 0), (i 2 0), (i 0 0), (i 0 0), (i 3 0), (r 604), tt, (i 181 0), (r 605), nn, (r 606), (r 607), (r 608), (i 1204 0), (i 450 0), (s "/claim/cut.py" 1205)]), #[]⟩
noncomputable def o610 (_ : Params) : Obj := fo (T "function") (fd (in_ 119 0) "NumberWords.__init__" 3 nn nn nn (s "framerune.sourcelib" 1153) (r 609) nn 0)
noncomputable def o611 (_ : Params) : Obj := te
noncomputable def o612 (_ : Params) : Obj := ft []
noncomputable def o613 (_ : Params) : Obj := tn ["self", "ev", "mref", "this", "args"] 1210
noncomputable def o614 (_ : Params) : Obj := te
noncomputable def o615 (_ : Params) : Obj := fo nn (fd (in_ 119 1) "NumberWords.call" 0 nn nn nn nn nn nn 0)
noncomputable def o616 (_ : Params) : Obj := ⟨(T "code"), none, .fields (fA [(s "call" 1207), (s "NumberWords.call" 1208), (s "/claim/cut.py" 1209), (i 453 0), (i 5 0), (i 0 0), (i 0 0), (i 3 0), (r 611), tt, (i 181 0), (r 612), nn, (r 613), (r 614), (r 615), (i 1215 0), (i 453 0), (s "/claim/cut.py" 1216)]), #[]⟩
noncomputable def o617 (_ : Params) : Obj := fo (T "function") (fd (in_ 119 1) "NumberWords.call" 3 nn nn nn (s "framerune.sourcelib" 1153) (r 616) nn 0)
noncomputable def o618 (_ : Params) : Obj := tn ["k"] 1218
noncomputable def o619 (P : Params) : Obj := ⟨(T "dict"), none, .dict (dA [(k P "__module__" 1194 (s "framerune.sourcelib" 1153)), (k P "__firstlineno__" 1198 (i 448 1197)), (k P "__init__" 1206 (r 610)), (k P "call" 1217 (r 617)), (k P "__static_attributes__" 1219 (r 618)), (k P "__doc__" 1220 nn)]) 2, #[]⟩
noncomputable def o620 (_ : Params) : Obj := ⟨(T "type"), none, .cls (cd "NumberWords" [(r 382)] [(r 620), (r 382), (T "object")] 619 "NumberWords" true []), #[some (r 597), none, some (s "NumberWords" 1187), some (s "NumberWords" 1195), some (B "object.__new__"), some tt]⟩
noncomputable def o621 (_ : Params) : Obj := ⟨(T "super"), none, .fields (fA [(r 620), (r 620), (r 620)]), #[]⟩
noncomputable def o622 (_ : Params) : Obj := ⟨(T "builtin_function_or_method"), none, .fields (fA [(B "object.__init_subclass__"), (r 620)]), #[]⟩
noncomputable def o623 (_ : Params) : Obj := tp [(r 382)]
noncomputable def o624 (_ : Params) : Obj := ⟨(T "builtin_function_or_method"), none, .fields (fA [(B "type.__prepare__"), (T "type")]), #[]⟩
noncomputable def o625 (P : Params) : Obj := ⟨(T "dict"), none, .dict (dA [(k P "__module__" 1230 (s "framerune.sourcelib" 1153)), (k P "__qualname__" 1232 (s "NumberSame" 1231)), (k P "__firstlineno__" 1234 (i 455 1233)), (k P "__init__" 1242 (r 636)), (k P "call" 1254 (r 643)), (k P "__static_attributes__" 1256 (r 644))]) 6, #[]⟩
noncomputable def o626 (_ : Params) : Obj := te
noncomputable def o627 (_ : Params) : Obj := ft [457, 4, 635, 460, 4, 642]
noncomputable def o628 (_ : Params) : Obj := ⟨(T "code"), none, .fields (fA [(s "NumberSame" 1225), (s "NumberSame" 1226), (s "/claim/cut.py" 1227), (i 455 0), (i 0 0), (i 0 0), (i 0 0), (i 0 0), (r 626), ff, (i 181 0), (r 627), nn, nn, nn, nn, (i 1228 0), (i 455 0), (s "/claim/cut.py" 1229)]), #[]⟩
noncomputable def o629 (_ : Params) : Obj := ⟨(T "frame"), none, .plain, #[some (r 628), some (r 3), some (r 625), none, some (s "framerune.sourcelib" 1153), none, some (r 0)]⟩
noncomputable def o630 (_ : Params) : Obj := te
noncomputable def o631 (_ : Params) : Obj := ft []
noncomputable def o632 (_ : Params) : Obj := tn ["self", "k"] 1238
noncomputable def o633 (_ : Params) : Obj := te
noncomputable def o634 (_ : Params) : Obj := fo nn (fd (in_ 120 0) "NumberSame.__init__" 0 nn nn nn nn nn nn 0)
noncomputable def o635 (_ : Params) : Obj := ⟨(T "code"), none, .fields (fA [(s "__init__" 1235), (s "NumberSame.__init__" 1236), (s "/claim/cut.py" 1237), (i 457 0), (i 2 0), (i 0 0), (i 0 0), (i 3 0), (r 630), tt, (i 181 0), (r 631), nn, (r 632), (r 633), (r 634), (i 1240 0), (i 457 0), (s "/claim/cut.py" 1241)]), #[]⟩
noncomputable def o636 (_ : Params) : Obj := fo (T "function") (fd (in_ 120 0) "NumberSame.__init__" 3 nn nn nn (s "framerune.sourcelib" 1153) (r 635) nn 0)
noncomputable def o637 (_ : Params) : Obj := te
noncomputable def o638 (_ : Params) : Obj := ft []
noncomputable def o639 (_ : Params) : Obj := tn ["self", "ev", "mref", "this", "args", "item"] 1246
noncomputable def o640 (_ : Params) : Obj := te
noncomputable def o641 (_ : Params) : Obj := fo nn (fd (in_ 120 1) "NumberSame.call" 0 nn nn nn nn nn nn 0)
noncomputable def o642 (_ : Params) : Obj := ⟨(T "code"), none, .fields (fA [(s "call" 1243), (s "NumberSame.call" 1244), (s "/claim/cut.py" 1245), (i 460 0), (i 5 0), (i 0 0), (i 0 0), (i 3 0), (r 637), tt, (i 181 0), (r 638), nn, (r 639), (r 640), (r 641), (i 1252 0), (i 460 0), (s "/claim/cut.py" 1253)]), #[]⟩
noncomputable def o643 (_ : Params) : Obj := fo (T "function") (fd (in_ 120 1) "NumberSame.call" 3 nn nn nn (s "framerune.sourcelib" 1153) (r 642) nn 0)
noncomputable def o644 (_ : Params) : Obj := tn ["k"] 1255
noncomputable def o645 (P : Params) : Obj := ⟨(T "dict"), none, .dict (dA [(k P "__module__" 1230 (s "framerune.sourcelib" 1153)), (k P "__firstlineno__" 1234 (i 455 1233)), (k P "__init__" 1242 (r 636)), (k P "call" 1254 (r 643)), (k P "__static_attributes__" 1256 (r 644)), (k P "__doc__" 1257 nn)]) 2, #[]⟩
noncomputable def o646 (_ : Params) : Obj := ⟨(T "type"), none, .cls (cd "NumberSame" [(r 382)] [(r 646), (r 382), (T "object")] 645 "NumberSame" true []), #[some (r 623), none, some (s "NumberSame" 1223), some (s "NumberSame" 1231), some (B "object.__new__"), some tt]⟩
noncomputable def o647 (_ : Params) : Obj := ⟨(T "super"), none, .fields (fA [(r 646), (r 646), (r 646)]), #[]⟩
noncomputable def o648 (_ : Params) : Obj := ⟨(T "builtin_function_or_method"), none, .fields (fA [(B "object.__init_subclass__"), (r 646)]), #[]⟩
noncomputable def o649 (_ : Params) : Obj := tp [(r 382)]
noncomputable def o650 (_ : Params) : Obj := ⟨(T "builtin_function_or_method"), none, .fields (fA [(B "type.__prepare__"), (T "type")]), #[]⟩
noncomputable def o651 (P : Params) : Obj := ⟨(T "dict"), none, .dict (dA [(k P "__module__" 1267 (s "framerune.sourcelib" 1153)), (k P "__qualname__" 1269 (s "NumberHash" 1268)), (k P "__firstlineno__" 1271 (i 465 1270)), (k P "__init__" 1279 (r 662)), (k P "call" 1291 (r 669)), (k P "__static_attributes__" 1293 (r 670))]) 6, #[]⟩
noncomputable def o652 (_ : Params) : Obj := te
noncomputable def o653 (_ : Params) : Obj := ft [467, 4, 661, 470, 4, 668]
noncomputable def o654 (_ : Params) : Obj := ⟨(T "code"), none, .fields (fA [(s "NumberHash" 1262), (s "NumberHash" 1263), (s "/claim/cut.py" 1264), (i 465 0), (i 0 0), (i 0 0), (i 0 0), (i 0 0), (r 652), ff, (i 181 0), (r 653), nn, nn, nn, nn, (i 1265 0), (i 465 0), (s "/claim/cut.py" 1266)]), #[]⟩
noncomputable def o655 (_ : Params) : Obj := ⟨(T "frame"), none, .plain, #[some (r 654), some (r 3), some (r 651), none, some (s "framerune.sourcelib" 1153), none, some (r 0)]⟩
noncomputable def o656 (_ : Params) : Obj := te
noncomputable def o657 (_ : Params) : Obj := ft []
noncomputable def o658 (_ : Params) : Obj := tn ["self", "k"] 1275
noncomputable def o659 (_ : Params) : Obj := te
noncomputable def o660 (_ : Params) : Obj := fo nn (fd (in_ 121 0) "NumberHash.__init__" 0 nn nn nn nn nn nn 0)
noncomputable def o661 (_ : Params) : Obj := ⟨(T "code"), none, .fields (fA [(s "__init__" 1272), (s "NumberHash.__init__" 1273), (s "/claim/cut.py" 1274), (i 467 0), (i 2 0), (i 0 0), (i 0 0), (i 3 0), (r 656), tt, (i 181 0), (r 657), nn, (r 658), (r 659), (r 660), (i 1277 0), (i 467 0), (s "/claim/cut.py" 1278)]), #[]⟩
noncomputable def o662 (_ : Params) : Obj := fo (T "function") (fd (in_ 121 0) "NumberHash.__init__" 3 nn nn nn (s "framerune.sourcelib" 1153) (r 661) nn 0)
noncomputable def o663 (_ : Params) : Obj := te
noncomputable def o664 (_ : Params) : Obj := ft []
noncomputable def o665 (_ : Params) : Obj := tn ["self", "ev", "mref", "this", "args", "n"] 1283
noncomputable def o666 (_ : Params) : Obj := te
noncomputable def o667 (_ : Params) : Obj := fo nn (fd (in_ 121 1) "NumberHash.call" 0 nn nn nn nn nn nn 0)
noncomputable def o668 (_ : Params) : Obj := ⟨(T "code"), none, .fields (fA [(s "call" 1280), (s "NumberHash.call" 1281), (s "/claim/cut.py" 1282), (i 470 0), (i 5 0), (i 0 0), (i 0 0), (i 3 0), (r 663), tt, (i 181 0), (r 664), nn, (r 665), (r 666), (r 667), (i 1289 0), (i 470 0), (s "/claim/cut.py" 1290)]), #[]⟩
noncomputable def o669 (_ : Params) : Obj := fo (T "function") (fd (in_ 121 1) "NumberHash.call" 3 nn nn nn (s "framerune.sourcelib" 1153) (r 668) nn 0)
noncomputable def o670 (_ : Params) : Obj := tn ["k"] 1292
noncomputable def o671 (P : Params) : Obj := ⟨(T "dict"), none, .dict (dA [(k P "__module__" 1267 (s "framerune.sourcelib" 1153)), (k P "__firstlineno__" 1271 (i 465 1270)), (k P "__init__" 1279 (r 662)), (k P "call" 1291 (r 669)), (k P "__static_attributes__" 1293 (r 670)), (k P "__doc__" 1294 nn)]) 2, #[]⟩
noncomputable def o672 (_ : Params) : Obj := ⟨(T "type"), none, .cls (cd "NumberHash" [(r 382)] [(r 672), (r 382), (T "object")] 671 "NumberHash" true []), #[some (r 649), none, some (s "NumberHash" 1260), some (s "NumberHash" 1268), some (B "object.__new__"), some tt]⟩
noncomputable def o673 (_ : Params) : Obj := ⟨(T "super"), none, .fields (fA [(r 672), (r 672), (r 672)]), #[]⟩
noncomputable def o674 (_ : Params) : Obj := ⟨(T "builtin_function_or_method"), none, .fields (fA [(B "object.__init_subclass__"), (r 672)]), #[]⟩
noncomputable def o675 (_ : Params) : Obj := tp [(r 382)]
noncomputable def o676 (_ : Params) : Obj := ⟨(T "builtin_function_or_method"), none, .fields (fA [(B "type.__prepare__"), (T "type")]), #[]⟩
noncomputable def o677 (P : Params) : Obj := ⟨(T "dict"), none, .dict (dA [(k P "__module__" 1304 (s "framerune.sourcelib" 1153)), (k P "__qualname__" 1306 (s "NumberCompare" 1305)), (k P "__firstlineno__" 1308 (i 479 1307)), (k P "__init__" 1316 (r 688)), (k P "call" 1327 (r 695)), (k P "__static_attributes__" 1329 (r 696))]) 6, #[]⟩
noncomputable def o678 (_ : Params) : Obj := te
noncomputable def o679 (_ : Params) : Obj := ft [481, 4, 687, 484, 4, 694]
noncomputable def o680 (_ : Params) : Obj := ⟨(T "code"), none, .fields (fA [(s "NumberCompare" 1299), (s "NumberCompare" 1300), (s "/claim/cut.py" 1301), (i 479 0), (i 0 0), (i 0 0), (i 0 0), (i 0 0), (r 678), ff, (i 181 0), (r 679), nn, nn, nn, nn, (i 1302 0), (i 479 0), (s "/claim/cut.py" 1303)]), #[]⟩
noncomputable def o681 (_ : Params) : Obj := ⟨(T "frame"), none, .plain, #[some (r 680), some (r 3), some (r 677), none, some (s "framerune.sourcelib" 1153), none, some (r 0)]⟩
noncomputable def o682 (_ : Params) : Obj := te
noncomputable def o683 (_ : Params) : Obj := ft []
noncomputable def o684 (_ : Params) : Obj := tn ["self", "k"] 1312
noncomputable def o685 (_ : Params) : Obj := te
noncomputable def o686 (_ : Params) : Obj := fo nn (fd (in_ 122 0) "NumberCompare.__init__" 0 nn nn nn nn nn nn 0)
noncomputable def o687 (_ : Params) : Obj := ⟨(T "code"), none, .fields (fA [(s "__init__" 1309), (s "NumberCompare.__init__" 1310), (s "/claim/cut.py" 1311), (i 481 0), (i 2 0), (i 0 0), (i 0 0), (i 3 0), (r 682), tt, (i 181 0), (r 683), nn, (r 684), (r 685), (r 686), (i 1314 0), (i 481 0), (s "/claim/cut.py" 1315)]), #[]⟩
noncomputable def o688 (_ : Params) : Obj := fo (T "function") (fd (in_ 122 0) "NumberCompare.__init__" 3 nn nn nn (s "framerune.sourcelib" 1153) (r 687) nn 0)
noncomputable def o689 (_ : Params) : Obj := te
noncomputable def o690 (_ : Params) : Obj := ft []
noncomputable def o691 (_ : Params) : Obj := tn ["self", "ev", "mref", "this", "args"] 1320
noncomputable def o692 (_ : Params) : Obj := te
noncomputable def o693 (_ : Params) : Obj := fo nn (fd (in_ 122 1) "NumberCompare.call" 0 nn nn nn nn nn nn 0)
noncomputable def o694 (_ : Params) : Obj := ⟨(T "code"), none, .fields (fA [(s "call" 1317), (s "NumberCompare.call" 1318), (s "/claim/cut.py" 1319), (i 484 0), (i 5 0), (i 0 0), (i 0 0), (i 3 0), (r 689), tt, (i 181 0), (r 690), nn, (r 691), (r 692), (r 693), (i 1325 0), (i 484 0), (s "/claim/cut.py" 1326)]), #[]⟩
noncomputable def o695 (_ : Params) : Obj := fo (T "function") (fd (in_ 122 1) "NumberCompare.call" 3 nn nn nn (s "framerune.sourcelib" 1153) (r 694) nn 0)
noncomputable def o696 (_ : Params) : Obj := tn ["k"] 1328
noncomputable def o697 (P : Params) : Obj := ⟨(T "dict"), none, .dict (dA [(k P "__module__" 1304 (s "framerune.sourcelib" 1153)), (k P "__firstlineno__" 1308 (i 479 1307)), (k P "__init__" 1316 (r 688)), (k P "call" 1327 (r 695)), (k P "__static_attributes__" 1329 (r 696)), (k P "__doc__" 1330 nn)]) 2, #[]⟩
noncomputable def o698 (_ : Params) : Obj := ⟨(T "type"), none, .cls (cd "NumberCompare" [(r 382)] [(r 698), (r 382), (T "object")] 697 "NumberCompare" true []), #[some (r 675), none, some (s "NumberCompare" 1297), some (s "NumberCompare" 1305), some (B "object.__new__"), some tt]⟩
noncomputable def o699 (_ : Params) : Obj := ⟨(T "super"), none, .fields (fA [(r 698), (r 698), (r 698)]), #[]⟩
noncomputable def o700 (_ : Params) : Obj := ⟨(T "builtin_function_or_method"), none, .fields (fA [(B "object.__init_subclass__"), (r 698)]), #[]⟩
noncomputable def o701 (_ : Params) : Obj := te
noncomputable def o702 (_ : Params) : Obj := ft []
noncomputable def o703 (_ : Params) : Obj := tn ["ev", "k", "mid"] 1336
noncomputable def o704 (_ : Params) : Obj := te
noncomputable def o705 (_ : Params) : Obj := fo nn (fd (at_ 123) "install_ev_prims" 0 nn nn nn nn nn nn 0)
noncomputable def o706 (_ : Params) : Obj := ⟨(T "code"), none, .fields (fA [(s "install_ev_prims" 1333), (s "install_ev_prims" 1334), (s "/claim/cut.py" 1335), (i 486 0), (i 1 0), (i 0 0), (i 0 0), (i 3 0), (r 701), tt, (i 181 0), (r 702), nn, (r 703), (r 704), (r 705), (i 1339 0), (i 486 0), (s "/claim/cut.py" 1340)]), #[]⟩
noncomputable def o707 (_ : Params) : Obj := fo (T "function") (fd (at_ 123) "install_ev_prims" 3 nn nn nn (s "framerune.sourcelib" 1153) (r 706) nn 0)
noncomputable def o708 (_ : Params) : Obj := te
noncomputable def o709 (_ : Params) : Obj := ⟨(T "builtin_function_or_method"), none, .fields (fA [(B "type.__prepare__"), (T "type")]), #[]⟩
noncomputable def o710 (P : Params) : Obj := ⟨(T "dict"), none, .dict (dA [(k P "__module__" 1351 (s "framerune.kindrel" 1342)), (k P "__qualname__" 1353 (s "BareHost" 1352)), (k P "__firstlineno__" 1355 (i 495 1354)), (k P "__init__" 1363 (r 721)), (k P "base" 1371 (r 728)), (k P "ifaces_at" 1379 (r 735)), (k P "sort" 1387 (r 742)), (k P "variance" 1395 (r 749)), (k P "under" 1403 (r 756)), (k P "has_new" 1411 (r 763)), (k P "__static_attributes__" 1421 (r 764))]) 11, #[]⟩
noncomputable def o711 (_ : Params) : Obj := te
noncomputable def o712 (_ : Params) : Obj := ft [497, 4, 720, 508, 4, 727, 511, 4, 734, 514, 4, 741, 517, 4, 748, 520, 4, 755, 523, 4, 762]
noncomputable def o713 (_ : Params) : Obj := ⟨(T "code"), none, .fields (fA [(s "BareHost" 1346), (s "BareHost" 1347), (s "/claim/cut.py" 1348), (i 495 0), (i 0 0), (i 0 0), (i 0 0), (i 0 0), (r 711), ff, (i 181 0), (r 712), nn, nn, nn, nn, (i 1349 0), (i 495 0), (s "/claim/cut.py" 1350)]), #[]⟩
noncomputable def o714 (_ : Params) : Obj := ⟨(T "frame"), none, .plain, #[some (r 713), some (r 3), some (r 710), none, some (s "framerune.kindrel" 1342), none, some (r 0)]⟩
noncomputable def o715 (_ : Params) : Obj := te
noncomputable def o716 (_ : Params) : Obj := ft []
noncomputable def o717 (_ : Params) : Obj := tn ["self", "kt"] 1359
noncomputable def o718 (_ : Params) : Obj := te
noncomputable def o719 (_ : Params) : Obj := fo nn (fd (in_ 125 0) "BareHost.__init__" 0 nn nn nn nn nn nn 0)
noncomputable def o720 (_ : Params) : Obj := ⟨(T "code"), none, .fields (fA [(s "__init__" 1356), (s "BareHost.__init__" 1357), (s "/claim/cut.py" 1358), (i 497 0), (i 2 0), (i 0 0), (i 0 0), (i 3 0), (r 715), tt, (i 181 0), (r 716), nn, (r 717), (r 718), (r 719), (i 1361 0), (i 497 0), (s "/claim/cut.py" 1362)]), #[]⟩
noncomputable def o721 (_ : Params) : Obj := fo (T "function") (fd (in_ 125 0) "BareHost.__init__" 3 nn nn nn (s "framerune.kindrel" 1342) (r 720) nn 0)
noncomputable def o722 (_ : Params) : Obj := te
noncomputable def o723 (_ : Params) : Obj := ft []
noncomputable def o724 (_ : Params) : Obj := tn ["self", "k"] 1367
noncomputable def o725 (_ : Params) : Obj := te
noncomputable def o726 (_ : Params) : Obj := fo nn (fd (in_ 125 1) "BareHost.base" 0 nn nn nn nn nn nn 0)
noncomputable def o727 (_ : Params) : Obj := ⟨(T "code"), none, .fields (fA [(s "base" 1364), (s "BareHost.base" 1365), (s "/claim/cut.py" 1366), (i 508 0), (i 2 0), (i 0 0), (i 0 0), (i 3 0), (r 722), tt, (i 181 0), (r 723), nn, (r 724), (r 725), (r 726), (i 1369 0), (i 508 0), (s "/claim/cut.py" 1370)]), #[]⟩
noncomputable def o728 (_ : Params) : Obj := fo (T "function") (fd (in_ 125 1) "BareHost.base" 3 nn nn nn (s "framerune.kindrel" 1342) (r 727) nn 0)
noncomputable def o729 (_ : Params) : Obj := te
noncomputable def o730 (_ : Params) : Obj := ft []
noncomputable def o731 (_ : Params) : Obj := tn ["self", "k"] 1375
noncomputable def o732 (_ : Params) : Obj := te
noncomputable def o733 (_ : Params) : Obj := fo nn (fd (in_ 125 2) "BareHost.ifaces_at" 0 nn nn nn nn nn nn 0)
noncomputable def o734 (_ : Params) : Obj := ⟨(T "code"), none, .fields (fA [(s "ifaces_at" 1372), (s "BareHost.ifaces_at" 1373), (s "/claim/cut.py" 1374), (i 511 0), (i 2 0), (i 0 0), (i 0 0), (i 3 0), (r 729), tt, (i 181 0), (r 730), nn, (r 731), (r 732), (r 733), (i 1377 0), (i 511 0), (s "/claim/cut.py" 1378)]), #[]⟩
noncomputable def o735 (_ : Params) : Obj := fo (T "function") (fd (in_ 125 2) "BareHost.ifaces_at" 3 nn nn nn (s "framerune.kindrel" 1342) (r 734) nn 0)
noncomputable def o736 (_ : Params) : Obj := te
noncomputable def o737 (_ : Params) : Obj := ft []
noncomputable def o738 (_ : Params) : Obj := tn ["self", "k"] 1383
noncomputable def o739 (_ : Params) : Obj := te
noncomputable def o740 (_ : Params) : Obj := fo nn (fd (in_ 125 3) "BareHost.sort" 0 nn nn nn nn nn nn 0)
noncomputable def o741 (_ : Params) : Obj := ⟨(T "code"), none, .fields (fA [(s "sort" 1380), (s "BareHost.sort" 1381), (s "/claim/cut.py" 1382), (i 514 0), (i 2 0), (i 0 0), (i 0 0), (i 3 0), (r 736), tt, (i 181 0), (r 737), nn, (r 738), (r 739), (r 740), (i 1385 0), (i 514 0), (s "/claim/cut.py" 1386)]), #[]⟩
noncomputable def o742 (_ : Params) : Obj := fo (T "function") (fd (in_ 125 3) "BareHost.sort" 3 nn nn nn (s "framerune.kindrel" 1342) (r 741) nn 0)
noncomputable def o743 (_ : Params) : Obj := te
noncomputable def o744 (_ : Params) : Obj := ft []
noncomputable def o745 (_ : Params) : Obj := tn ["self", "tid"] 1391
noncomputable def o746 (_ : Params) : Obj := te
noncomputable def o747 (_ : Params) : Obj := fo nn (fd (in_ 125 4) "BareHost.variance" 0 nn nn nn nn nn nn 0)
noncomputable def o748 (_ : Params) : Obj := ⟨(T "code"), none, .fields (fA [(s "variance" 1388), (s "BareHost.variance" 1389), (s "/claim/cut.py" 1390), (i 517 0), (i 2 0), (i 0 0), (i 0 0), (i 3 0), (r 743), tt, (i 181 0), (r 744), nn, (r 745), (r 746), (r 747), (i 1393 0), (i 517 0), (s "/claim/cut.py" 1394)]), #[]⟩
noncomputable def o749 (_ : Params) : Obj := fo (T "function") (fd (in_ 125 4) "BareHost.variance" 3 nn nn nn (s "framerune.kindrel" 1342) (r 748) nn 0)
noncomputable def o750 (_ : Params) : Obj := te
noncomputable def o751 (_ : Params) : Obj := ft []
noncomputable def o752 (_ : Params) : Obj := tn ["self", "k"] 1399
noncomputable def o753 (_ : Params) : Obj := te
noncomputable def o754 (_ : Params) : Obj := fo nn (fd (in_ 125 5) "BareHost.under" 0 nn nn nn nn nn nn 0)
noncomputable def o755 (_ : Params) : Obj := ⟨(T "code"), none, .fields (fA [(s "under" 1396), (s "BareHost.under" 1397), (s "/claim/cut.py" 1398), (i 520 0), (i 2 0), (i 0 0), (i 0 0), (i 3 0), (r 750), tt, (i 181 0), (r 751), nn, (r 752), (r 753), (r 754), (i 1401 0), (i 520 0), (s "/claim/cut.py" 1402)]), #[]⟩
noncomputable def o756 (_ : Params) : Obj := fo (T "function") (fd (in_ 125 5) "BareHost.under" 3 nn nn nn (s "framerune.kindrel" 1342) (r 755) nn 0)
noncomputable def o757 (_ : Params) : Obj := te
noncomputable def o758 (_ : Params) : Obj := ft []
noncomputable def o759 (_ : Params) : Obj := tn ["self", "k"] 1407
noncomputable def o760 (_ : Params) : Obj := te
noncomputable def o761 (_ : Params) : Obj := fo nn (fd (in_ 125 6) "BareHost.has_new" 0 nn nn nn nn nn nn 0)
noncomputable def o762 (_ : Params) : Obj := ⟨(T "code"), none, .fields (fA [(s "has_new" 1404), (s "BareHost.has_new" 1405), (s "/claim/cut.py" 1406), (i 523 0), (i 2 0), (i 0 0), (i 0 0), (i 3 0), (r 757), tt, (i 181 0), (r 758), nn, (r 759), (r 760), (r 761), (i 1409 0), (i 523 0), (s "/claim/cut.py" 1410)]), #[]⟩
noncomputable def o763 (_ : Params) : Obj := fo (T "function") (fd (in_ 125 6) "BareHost.has_new" 3 nn nn nn (s "framerune.kindrel" 1342) (r 762) nn 0)
noncomputable def o764 (_ : Params) : Obj := tn ["bases", "bounds", "gflags", "ifaces", "kt", "news", "sorts", "unders", "variances"] 1412
noncomputable def o765 (P : Params) : Obj := ⟨(T "dict"), none, .dict (dA [(k P "__module__" 1351 (s "framerune.kindrel" 1342)), (k P "__firstlineno__" 1355 (i 495 1354)), (k P "__init__" 1363 (r 721)), (k P "base" 1371 (r 728)), (k P "ifaces_at" 1379 (r 735)), (k P "sort" 1387 (r 742)), (k P "variance" 1395 (r 749)), (k P "under" 1403 (r 756)), (k P "has_new" 1411 (r 763)), (k P "__static_attributes__" 1421 (r 764)), (k P "__dict__" 1423 (r 767)), (k P "__weakref__" 1425 (r 768)), (k P "__doc__" 1426 nn)]) 4, #[]⟩
noncomputable def o766 (_ : Params) : Obj := ⟨(T "type"), none, .cls (cd "BareHost" [(T "object")] [(r 766), (T "object")] 765 "BareHost" true []), #[none, none, some (s "BareHost" 1344), some (s "BareHost" 1352), some (B "object.__new__"), some tt]⟩
noncomputable def o767 (_ : Params) : Obj := ⟨(T "getset_descriptor"), none, .fields (fA [(s "__dict__" 1422), (r 766), (B "function.__dict__"), (B "function.__dict__#set")]), #[]⟩
noncomputable def o768 (_ : Params) : Obj := ⟨(T "getset_descriptor"), none, .fields (fA [(s "__weakref__" 1424), (r 766), (B "ExceptionGroup.__weakref__"), nn]), #[]⟩
noncomputable def o769 (_ : Params) : Obj := ⟨(T "super"), none, .fields (fA [(r 766), (r 766), (r 766)]), #[]⟩
noncomputable def o770 (_ : Params) : Obj := ⟨(T "builtin_function_or_method"), none, .fields (fA [(B "object.__init_subclass__"), (r 766)]), #[]⟩
noncomputable def o771 (_ : Params) : Obj := te
noncomputable def o772 (_ : Params) : Obj := ft []
noncomputable def o773 (_ : Params) : Obj := tn ["count"] 1440
noncomputable def o774 (_ : Params) : Obj := te
noncomputable def o775 (_ : Params) : Obj := fo nn (fd (at_ 130) "words_for" 0 nn nn nn nn nn nn 0)
noncomputable def o776 (_ : Params) : Obj := ⟨(T "code"), none, .fields (fA [(s "words_for" 1437), (s "words_for" 1438), (s "/claim/cut.py" 1439), (i 529 0), (i 1 0), (i 0 0), (i 0 0), (i 3 0), (r 771), tt, (i 181 0), (r 772), nn, (r 773), (r 774), (r 775), (i 1441 0), (i 529 0), (s "/claim/cut.py" 1442)]), #[]⟩
noncomputable def o777 (_ : Params) : Obj := fo (T "function") (fd (at_ 130) "words_for" 3 nn nn nn (s "framerune.heap" 1429) (r 776) nn 0)
noncomputable def o778 (_ : Params) : Obj := te
noncomputable def o779 (_ : Params) : Obj := ⟨(T "builtin_function_or_method"), none, .fields (fA [(B "type.__prepare__"), (T "type")]), #[]⟩
noncomputable def o780 (P : Params) : Obj := ⟨(T "dict"), none, .dict (dA [(k P "__module__" 1451 (s "framerune.heap" 1429)), (k P "__qualname__" 1453 (s "Thing" 1452)), (k P "__firstlineno__" 1455 (i 533 1454)), (k P "__init__" 1465 (r 791)), (k P "__static_attributes__" 1472 (r 792))]) 5, #[]⟩
noncomputable def o781 (_ : Params) : Obj := te
noncomputable def o782 (_ : Params) : Obj := ft [535, 4, 790]
noncomputable def o783 (_ : Params) : Obj := ⟨(T "code"), none, .fields (fA [(s "Thing" 1446), (s "Thing" 1447), (s "/claim/cut.py" 1448), (i 533 0), (i 0 0), (i 0 0), (i 0 0), (i 0 0), (r 781), ff, (i 181 0), (r 782), nn, nn, nn, nn, (i 1449 0), (i 533 0), (s "/claim/cut.py" 1450)]), #[]⟩
noncomputable def o784 (_ : Params) : Obj := ⟨(T "frame"), none, .plain, #[some (r 783), some (r 3), some (r 780), none, some (s "framerune.heap" 1429), none, some (r 0)]⟩
noncomputable def o785 (_ : Params) : Obj := te
noncomputable def o786 (_ : Params) : Obj := ft []
noncomputable def o787 (_ : Params) : Obj := tn ["self", "addr", "kind", "slots"] 1459
noncomputable def o788 (_ : Params) : Obj := te
noncomputable def o789 (_ : Params) : Obj := fo nn (fd (in_ 131 0) "Thing.__init__" 0 nn nn nn nn nn nn 0)
noncomputable def o790 (_ : Params) : Obj := ⟨(T "code"), none, .fields (fA [(s "__init__" 1456), (s "Thing.__init__" 1457), (s "/claim/cut.py" 1458), (i 535 0), (i 4 0), (i 0 0), (i 0 0), (i 3 0), (r 785), tt, (i 181 0), (r 786), nn, (r 787), (r 788), (r 789), (i 1463 0), (i 535 0), (s "/claim/cut.py" 1464)]), #[]⟩
noncomputable def o791 (_ : Params) : Obj := fo (T "function") (fd (in_ 131 0) "Thing.__init__" 3 nn nn nn (s "framerune.heap" 1429) (r 790) nn 0)
noncomputable def o792 (_ : Params) : Obj := tn ["addr", "gen", "kind", "serial", "size", "slots"] 1466
noncomputable def o793 (P : Params) : Obj := ⟨(T "dict"), none, .dict (dA [(k P "__module__" 1451 (s "framerune.heap" 1429)), (k P "__firstlineno__" 1455 (i 533 1454)), (k P "__init__" 1465 (r 791)), (k P "__static_attributes__" 1472 (r 792)), (k P "__dict__" 1474 (r 795)), (k P "__weakref__" 1476 (r 796)), (k P "__doc__" 1477 nn)]) 4, #[]⟩
noncomputable def o794 (_ : Params) : Obj := ⟨(T "type"), none, .cls (cd "Thing" [(T "object")] [(r 794), (T "object")] 793 "Thing" true []), #[none, none, some (s "Thing" 1444), some (s "Thing" 1452), some (B "object.__new__"), some tt]⟩
noncomputable def o795 (_ : Params) : Obj := ⟨(T "getset_descriptor"), none, .fields (fA [(s "__dict__" 1473), (r 794), (B "function.__dict__"), (B "function.__dict__#set")]), #[]⟩
noncomputable def o796 (_ : Params) : Obj := ⟨(T "getset_descriptor"), none, .fields (fA [(s "__weakref__" 1475), (r 794), (B "ExceptionGroup.__weakref__"), nn]), #[]⟩
noncomputable def o797 (_ : Params) : Obj := ⟨(T "super"), none, .fields (fA [(r 794), (r 794), (r 794)]), #[]⟩
noncomputable def o798 (_ : Params) : Obj := ⟨(T "builtin_function_or_method"), none, .fields (fA [(B "object.__init_subclass__"), (r 794)]), #[]⟩
noncomputable def o799 (_ : Params) : Obj := te
noncomputable def o800 (_ : Params) : Obj := ⟨(T "builtin_function_or_method"), none, .fields (fA [(B "type.__prepare__"), (T "type")]), #[]⟩
noncomputable def o801 (P : Params) : Obj := ⟨(T "dict"), none, .dict (dA [(k P "__module__" 1487 (s "framerune.heap" 1429)), (k P "__qualname__" 1489 (s "Heap" 1488)), (k P "__firstlineno__" 1491 (i 542 1490)), (k P "__init__" 1500 (r 812)), (k P "__static_attributes__" 1513 (r 813))]) 5, #[]⟩
noncomputable def o802 (_ : Params) : Obj := te
noncomputable def o803 (_ : Params) : Obj := ft [544, 4, 811]
noncomputable def o804 (_ : Params) : Obj := ⟨(T "code"), none, .fields (fA [(s "Heap" 1482), (s "Heap" 1483), (s "/claim/cut.py" 1484), (i 542 0), (i 0 0), (i 0 0), (i 0 0), (i 0 0), (r 802), ff, (i 181 0), (r 803), nn, nn, nn, nn, (i 1485 0), (i 542 0), (s "/claim/cut.py" 1486)]), #[]⟩
noncomputable def o805 (_ : Params) : Obj := ⟨(T "frame"), none, .plain, #[some (r 804), some (r 3), some (r 801), none, some (s "framerune.heap" 1429), none, some (r 0)]⟩
noncomputable def o806 (_ : Params) : Obj := te
noncomputable def o807 (_ : Params) : Obj := ft []
noncomputable def o808 (_ : Params) : Obj := tn ["self", "limit", "card_bits"] 1495
noncomputable def o809 (_ : Params) : Obj := te
noncomputable def o810 (_ : Params) : Obj := fo nn (fd (in_ 132 0) "Heap.__init__" 0 nn nn nn nn nn nn 0)
noncomputable def o811 (_ : Params) : Obj := ⟨(T "code"), none, .fields (fA [(s "__init__" 1492), (s "Heap.__init__" 1493), (s "/claim/cut.py" 1494), (i 544 0), (i 3 0), (i 0 0), (i 0 0), (i 3 0), (r 806), tt, (i 181 0), (r 807), nn, (r 808), (r 809), (r 810), (i 1498 0), (i 544 0), (s "/claim/cut.py" 1499)]), #[]⟩
noncomputable def o812 (_ : Params) : Obj := fo (T "function") (fd (in_ 132 0) "Heap.__init__" 3 nn nn nn (s "framerune.heap" 1429) (r 811) nn 0)
noncomputable def o813 (_ : Params) : Obj := tn ["at", "card_bits", "cards", "finals", "fresh", "limit", "made", "moved", "ready", "things", "top", "young_limit"] 1501
noncomputable def o814 (P : Params) : Obj := ⟨(T "dict"), none, .dict (dA [(k P "__module__" 1487 (s "framerune.heap" 1429)), (k P "__firstlineno__" 1491 (i 542 1490)), (k P "__init__" 1500 (r 812)), (k P "__static_attributes__" 1513 (r 813)), (k P "__dict__" 1515 (r 816)), (k P "__weakref__" 1517 (r 817)), (k P "__doc__" 1518 nn)]) 4, #[]⟩
noncomputable def o815 (_ : Params) : Obj := ⟨(T "type"), none, .cls (cd "Heap" [(T "object")] [(r 815), (T "object")] 814 "Heap" true []), #[none, none, some (s "Heap" 1480), some (s "Heap" 1488), some (B "object.__new__"), some tt]⟩
noncomputable def o816 (_ : Params) : Obj := ⟨(T "getset_descriptor"), none, .fields (fA [(s "__dict__" 1514), (r 815), (B "function.__dict__"), (B "function.__dict__#set")]), #[]⟩
noncomputable def o817 (_ : Params) : Obj := ⟨(T "getset_descriptor"), none, .fields (fA [(s "__weakref__" 1516), (r 815), (B "ExceptionGroup.__weakref__"), nn]), #[]⟩
noncomputable def o818 (_ : Params) : Obj := ⟨(T "super"), none, .fields (fA [(r 815), (r 815), (r 815)]), #[]⟩
noncomputable def o819 (_ : Params) : Obj := ⟨(T "builtin_function_or_method"), none, .fields (fA [(B "object.__init_subclass__"), (r 815)]), #[]⟩
noncomputable def o820 (_ : Params) : Obj := te
noncomputable def o821 (_ : Params) : Obj := ft []
noncomputable def o822 (_ : Params) : Obj := tn ["heap", "kind", "slots", "thing"] 1524
noncomputable def o823 (_ : Params) : Obj := te
noncomputable def o824 (_ : Params) : Obj := fo nn (fd (at_ 133) "heap_alloc" 0 nn nn nn nn nn nn 0)
noncomputable def o825 (_ : Params) : Obj := ⟨(T "code"), none, .fields (fA [(s "heap_alloc" 1521), (s "heap_alloc" 1522), (s "/claim/cut.py" 1523), (i 557 0), (i 3 0), (i 0 0), (i 0 0), (i 3 0), (r 820), tt, (i 181 0), (r 821), nn, (r 822), (r 823), (r 824), (i 1528 0), (i 557 0), (s "/claim/cut.py" 1529)]), #[]⟩
noncomputable def o826 (_ : Params) : Obj := fo (T "function") (fd (at_ 133) "heap_alloc" 3 nn nn nn (s "framerune.heap" 1429) (r 825) nn 0)
noncomputable def o827 (_ : Params) : Obj := te
noncomputable def o828 (_ : Params) : Obj := ft []
noncomputable def o829 (_ : Params) : Obj := tn ["heap", "word", "exact", "low", "high", "middle", "thing"] 1534
noncomputable def o830 (_ : Params) : Obj := te
noncomputable def o831 (_ : Params) : Obj := fo nn (fd (at_ 134) "find_thing" 0 nn nn nn nn nn nn 0)
noncomputable def o832 (_ : Params) : Obj := ⟨(T "code"), none, .fields (fA [(s "find_thing" 1531), (s "find_thing" 1532), (s "/claim/cut.py" 1533), (i 566 0), (i 2 0), (i 0 0), (i 0 0), (i 3 0), (r 827), tt, (i 181 0), (r 828), nn, (r 829), (r 830), (r 831), (i 1541 0), (i 566 0), (s "/claim/cut.py" 1542)]), #[]⟩
noncomputable def o833 (_ : Params) : Obj := fo (T "function") (fd (at_ 134) "find_thing" 3 nn nn nn (s "framerune.heap" 1429) (r 832) nn 0)
noncomputable def o834 (_ : Params) : Obj := te
noncomputable def o835 (_ : Params) : Obj := ft []
noncomputable def o836 (_ : Params) : Obj := tn ["thing", "word", "slot"] 1547
noncomputable def o837 (_ : Params) : Obj := te
noncomputable def o838 (_ : Params) : Obj := fo nn (fd (at_ 135) "slot_at" 0 nn nn nn nn nn nn 0)
noncomputable def o839 (_ : Params) : Obj := ⟨(T "code"), none, .fields (fA [(s "slot_at" 1544), (s "slot_at" 1545), (s "/claim/cut.py" 1546), (i 584 0), (i 2 0), (i 0 0), (i 0 0), (i 3 0), (r 834), tt, (i 181 0), (r 835), nn, (r 836), (r 837), (r 838), (i 1550 0), (i 584 0), (s "/claim/cut.py" 1551)]), #[]⟩
noncomputable def o840 (_ : Params) : Obj := fo (T "function") (fd (at_ 135) "slot_at" 3 nn nn nn (s "framerune.heap" 1429) (r 839) nn 0)
noncomputable def o841 (_ : Params) : Obj := te
noncomputable def o842 (_ : Params) : Obj := ft []
noncomputable def o843 (_ : Params) : Obj := tn ["heap", "word", "thing", "slot"] 1556
noncomputable def o844 (_ : Params) : Obj := te
noncomputable def o845 (_ : Params) : Obj := fo nn (fd (at_ 136) "read_slot" 0 nn nn nn nn nn nn 0)
noncomputable def o846 (_ : Params) : Obj := ⟨(T "code"), none, .fields (fA [(s "read_slot" 1553), (s "read_slot" 1554), (s "/claim/cut.py" 1555), (i 589 0), (i 2 0), (i 0 0), (i 0 0), (i 3 0), (r 841), tt, (i 181 0), (r 842), nn, (r 843), (r 844), (r 845), (i 1560 0), (i 589 0), (s "/claim/cut.py" 1561)]), #[]⟩
noncomputable def o847 (_ : Params) : Obj := fo (T "function") (fd (at_ 136) "read_slot" 3 nn nn nn (s "framerune.heap" 1429) (r 846) nn 0)
noncomputable def o848 (_ : Params) : Obj := te
noncomputable def o849 (_ : Params) : Obj := ⟨(T "builtin_function_or_method"), none, .fields (fA [(B "type.__prepare__"), (T "type")]), #[]⟩
noncomputable def o850 (P : Params) : Obj := ⟨(T "dict"), none, .dict (dA [(k P "__module__" 1575 (s "framerune.places" 1563)), (k P "__qualname__" 1577 (s "PlaceHost" 1576)), (k P "__firstlineno__" 1579 (i 599 1578)), (k P "__init__" 1589 (r 861)), (k P "__static_attributes__" 1593 (r 862))]) 5, #[]⟩
noncomputable def o851 (_ : Params) : Obj := te
noncomputable def o852 (_ : Params) : Obj := ft [601, 4, 860]
noncomputable def o853 (_ : Params) : Obj := ⟨(T "code"), none, .fields (fA [(s "PlaceHost" 1570), (s "PlaceHost" 1571), (s "/claim/cut.py" 1572), (i 599 0), (i 0 0), (i 0 0), (i 0 0), (i 0 0), (r 851), ff, (i 181 0), (r 852), nn, nn, nn, nn, (i 1573 0), (i 599 0), (s "/claim/cut.py" 1574)]), #[]⟩
noncomputable def o854 (_ : Params) : Obj := ⟨(T "frame"), none, .plain, #[some (r 853), some (r 3), some (r 850), none, some (s "framerune.places" 1563), none, some (r 0)]⟩
noncomputable def o855 (_ : Params) : Obj := te
noncomputable def o856 (_ : Params) : Obj := ft []
noncomputable def o857 (_ : Params) : Obj := tn ["self", "heap", "frames", "statics"] 1583
noncomputable def o858 (_ : Params) : Obj := te
noncomputable def o859 (_ : Params) : Obj := fo nn (fd (in_ 139 0) "PlaceHost.__init__" 0 nn nn nn nn nn nn 0)
noncomputable def o860 (_ : Params) : Obj := ⟨(T "code"), none, .fields (fA [(s "__init__" 1580), (s "PlaceHost.__init__" 1581), (s "/claim/cut.py" 1582), (i 601 0), (i 4 0), (i 0 0), (i 0 0), (i 3 0), (r 855), tt, (i 181 0), (r 856), nn, (r 857), (r 858), (r 859), (i 1587 0), (i 601 0), (s "/claim/cut.py" 1588)]), #[]⟩
noncomputable def o861 (_ : Params) : Obj := fo (T "function") (fd (in_ 139 0) "PlaceHost.__init__" 3 nn nn nn (s "framerune.places" 1563) (r 860) nn 0)
noncomputable def o862 (_ : Params) : Obj := tn ["frames", "heap", "statics"] 1590
noncomputable def o863 (P : Params) : Obj := ⟨(T "dict"), none, .dict (dA [(k P "__module__" 1575 (s "framerune.places" 1563)), (k P "__firstlineno__" 1579 (i 599 1578)), (k P "__init__" 1589 (r 861)), (k P "__static_attributes__" 1593 (r 862)), (k P "__dict__" 1595 (r 865)), (k P "__weakref__" 1597 (r 866)), (k P "__doc__" 1598 nn)]) 4, #[]⟩
noncomputable def o864 (_ : Params) : Obj := ⟨(T "type"), none, .cls (cd "PlaceHost" [(T "object")] [(r 864), (T "object")] 863 "PlaceHost" true []), #[none, none, some (s "PlaceHost" 1568), some (s "PlaceHost" 1576), some (B "object.__new__"), some tt]⟩
noncomputable def o865 (_ : Params) : Obj := ⟨(T "getset_descriptor"), none, .fields (fA [(s "__dict__" 1594), (r 864), (B "function.__dict__"), (B "function.__dict__#set")]), #[]⟩
noncomputable def o866 (_ : Params) : Obj := ⟨(T "getset_descriptor"), none, .fields (fA [(s "__weakref__" 1596), (r 864), (B "ExceptionGroup.__weakref__"), nn]), #[]⟩
noncomputable def o867 (_ : Params) : Obj := ⟨(T "super"), none, .fields (fA [(r 864), (r 864), (r 864)]), #[]⟩
noncomputable def o868 (_ : Params) : Obj := ⟨(T "builtin_function_or_method"), none, .fields (fA [(B "object.__init_subclass__"), (r 864)]), #[]⟩
noncomputable def o869 (_ : Params) : Obj := te
noncomputable def o870 (_ : Params) : Obj := ft []
noncomputable def o871 (_ : Params) : Obj := tn ["place"] 1604
noncomputable def o872 (_ : Params) : Obj := te
noncomputable def o873 (_ : Params) : Obj := fo nn (fd (at_ 140) "path_of" 0 nn nn nn nn nn nn 0)
noncomputable def o874 (_ : Params) : Obj := ⟨(T "code"), none, .fields (fA [(s "path_of" 1601), (s "path_of" 1602), (s "/claim/cut.py" 1603), (i 605 0), (i 1 0), (i 0 0), (i 0 0), (i 3 0), (r 869), tt, (i 181 0), (r 870), nn, (r 871), (r 872), (r 873), (i 1605 0), (i 605 0), (s "/claim/cut.py" 1606)]), #[]⟩
noncomputable def o875 (_ : Params) : Obj := fo (T "function") (fd (at_ 140) "path_of" 3 nn nn nn (s "framerune.places" 1563) (r 874) nn 0)
noncomputable def o876 (_ : Params) : Obj := te
noncomputable def o877 (_ : Params) : Obj := ft []
noncomputable def o878 (_ : Params) : Obj := tn ["ph", "place", "f"] 1611
noncomputable def o879 (_ : Params) : Obj := te
noncomputable def o880 (_ : Params) : Obj := fo nn (fd (at_ 141) "slots_of" 0 nn nn nn nn nn nn 0)
noncomputable def o881 (_ : Params) : Obj := ⟨(T "code"), none, .fields (fA [(s "slots_of" 1608), (s "slots_of" 1609), (s "/claim/cut.py" 1610), (i 609 0), (i 2 0), (i 0 0), (i 0 0), (i 3 0), (r 876), tt, (i 181 0), (r 877), nn, (r 878), (r 879), (r 880), (i 1614 0), (i 609 0), (s "/claim/cut.py" 1615)]), #[]⟩
noncomputable def o882 (_ : Params) : Obj := fo (T "function") (fd (at_ 141) "slots_of" 3 nn nn nn (s "framerune.places" 1563) (r 881) nn 0)
noncomputable def o883 (_ : Params) : Obj := te
noncomputable def o884 (_ : Params) : Obj := ft []
noncomputable def o885 (_ : Params) : Obj := tn ["place"] 1620
noncomputable def o886 (_ : Params) : Obj := te
noncomputable def o887 (_ : Params) : Obj := fo nn (fd (at_ 142) "index_of" 0 nn nn nn nn nn nn 0)
noncomputable def o888 (_ : Params) : Obj := ⟨(T "code"), none, .fields (fA [(s "index_of" 1617), (s "index_of" 1618), (s "/claim/cut.py" 1619), (i 620 0), (i 1 0), (i 0 0), (i 0 0), (i 3 0), (r 883), tt, (i 181 0), (r 884), nn, (r 885), (r 886), (r 887), (i 1621 0), (i 620 0), (s "/claim/cut.py" 1622)]), #[]⟩
noncomputable def o889 (_ : Params) : Obj := fo (T "function") (fd (at_ 142) "index_of" 3 nn nn nn (s "framerune.places" 1563) (r 888) nn 0)
noncomputable def o890 (_ : Params) : Obj := te
noncomputable def o891 (_ : Params) : Obj := ft []
noncomputable def o892 (_ : Params) : Obj := tn ["ph", "place", "slots", "i"] 1627
noncomputable def o893 (_ : Params) : Obj := te
noncomputable def o894 (_ : Params) : Obj := fo nn (fd (at_ 143) "read_whole" 0 nn nn nn nn nn nn 0)
noncomputable def o895 (_ : Params) : Obj := ⟨(T "code"), none, .fields (fA [(s "read_whole" 1624), (s "read_whole" 1625), (s "/claim/cut.py" 1626), (i 624 0), (i 2 0), (i 0 0), (i 0 0), (i 3 0), (r 890), tt, (i 181 0), (r 891), nn, (r 892), (r 893), (r 894), (i 1631 0), (i 624 0), (s "/claim/cut.py" 1632)]), #[]⟩
noncomputable def o896 (_ : Params) : Obj := fo (T "function") (fd (at_ 143) "read_whole" 3 nn nn nn (s "framerune.places" 1563) (r 895) nn 0)
noncomputable def o897 (_ : Params) : Obj := te
noncomputable def o898 (_ : Params) : Obj := ft []
noncomputable def o899 (_ : Params) : Obj := tn ["ph", "place", "slot_value"] 1637
noncomputable def o900 (_ : Params) : Obj := te
noncomputable def o901 (_ : Params) : Obj := fo nn (fd (at_ 144) "read_place" 0 nn nn nn nn nn nn 0)
noncomputable def o902 (_ : Params) : Obj := ⟨(T "code"), none, .fields (fA [(s "read_place" 1634), (s "read_place" 1635), (s "/claim/cut.py" 1636), (i 634 0), (i 2 0), (i 0 0), (i 0 0), (i 3 0), (r 897), tt, (i 181 0), (r 898), nn, (r 899), (r 900), (r 901), (i 1640 0), (i 634 0), (s "/claim/cut.py" 1641)]), #[]⟩
noncomputable def o903 (_ : Params) : Obj := fo (T "function") (fd (at_ 144) "read_place" 3 nn nn nn (s "framerune.places" 1563) (r 902) nn 0)
noncomputable def o904 (_ : Params) : Obj := tp [(i 0 1660), (i 0 1661)]
noncomputable def o905 (_ : Params) : Obj := te
noncomputable def o906 (_ : Params) : Obj := ⟨(T "builtin_function_or_method"), none, .fields (fA [(B "type.__prepare__"), (T "type")]), #[]⟩
noncomputable def o907 (P : Params) : Obj := ⟨(T "dict"), none, .dict (dA [(k P "__module__" 1670 (s "framerune.mbase" 1643)), (k P "__qualname__" 1672 (s "Native" 1671)), (k P "__firstlineno__" 1674 (i 647 1673)), (k P "call" 1684 (r 918)), (k P "__static_attributes__" 1685 (r 919))]) 5, #[]⟩
noncomputable def o908 (_ : Params) : Obj := te
noncomputable def o909 (_ : Params) : Obj := ft [649, 4, 917]
noncomputable def o910 (_ : Params) : Obj := ⟨(T "code"), none, .fields (fA [(s "Native" 1665), (s "Native" 1666), (s "/claim/cut.py" 1667), (i 647 0), (i 0 0), (i 0 0), (i 0 0), (i 0 0), (r 908), ff, (i 181 0), (r 909), nn, nn, nn, nn, (i 1668 0), (i 647 0), (s "/claim/cut.py" 1669)]), #[]⟩
noncomputable def o911 (_ : Params) : Obj := ⟨(T "frame"), none, .plain, #[some (r 910), some (r 3), some (r 907), none, some (s "framerune.mbase" 1643), none, some (r 0)]⟩
noncomputable def o912 (_ : Params) : Obj := te
noncomputable def o913 (_ : Params) : Obj := ft []
noncomputable def o914 (_ : Params) : Obj := tn ["self", "m", "f", "args"] 1678
noncomputable def o915 (_ : Params) : Obj := te
noncomputable def o916 (_ : Params) : Obj := fo nn (fd (in_ 153 0) "Native.call" 0 nn nn nn nn nn nn 0)
noncomputable def o917 (_ : Params) : Obj := ⟨(T "code"), none, .fields (fA [(s "call" 1675), (s "Native.call" 1676), (s "/claim/cut.py" 1677), (i 649 0), (i 4 0), (i 0 0), (i 0 0), (i 3 0), (r 912), tt, (i 181 0), (r 913), nn, (r 914), (r 915), (r 916), (i 1682 0), (i 649 0), (s "/claim/cut.py" 1683)]), #[]⟩
noncomputable def o918 (_ : Params) : Obj := fo (T "function") (fd (in_ 153 0) "Native.call" 3 nn nn nn (s "framerune.mbase" 1643) (r 917) nn 0)
noncomputable def o919 (_ : Params) : Obj := te
noncomputable def o920 (P : Params) : Obj := ⟨(T "dict"), none, .dict (dA [(k P "__module__" 1670 (s "framerune.mbase" 1643)), (k P "__firstlineno__" 1674 (i 647 1673)), (k P "call" 1684 (r 918)), (k P "__static_attributes__" 1685 (r 919)), (k P "__dict__" 1687 (r 922)), (k P "__weakref__" 1689 (r 923)), (k P "__doc__" 1690 nn)]) 4, #[]⟩
noncomputable def o921 (_ : Params) : Obj := ⟨(T "type"), none, .cls (cd "Native" [(T "object")] [(r 921), (T "object")] 920 "Native" true [(r 1208), (r 1234)]), #[none, none, some (s "Native" 1663), some (s "Native" 1671), some (B "object.__new__"), some tt]⟩
noncomputable def o922 (_ : Params) : Obj := ⟨(T "getset_descriptor"), none, .fields (fA [(s "__dict__" 1686), (r 921), (B "function.__dict__"), (B "function.__dict__#set")]), #[]⟩
noncomputable def o923 (_ : Params) : Obj := ⟨(T "getset_descriptor"), none, .fields (fA [(s "__weakref__" 1688), (r 921), (B "ExceptionGroup.__weakref__"), nn]), #[]⟩
noncomputable def o924 (_ : Params) : Obj := ⟨(T "super"), none, .fields (fA [(r 921), (r 921), (r 921)]), #[]⟩
noncomputable def o925 (_ : Params) : Obj := ⟨(T "builtin_function_or_method"), none, .fields (fA [(B "object.__init_subclass__"), (r 921)]), #[]⟩
noncomputable def o926 (_ : Params) : Obj := te
noncomputable def o927 (_ : Params) : Obj := ⟨(T "builtin_function_or_method"), none, .fields (fA [(B "type.__prepare__"), (T "type")]), #[]⟩
noncomputable def o928 (P : Params) : Obj := ⟨(T "dict"), none, .dict (dA [(k P "__module__" 1700 (s "framerune.mbase" 1643)), (k P "__qualname__" 1702 (s "Starter" 1701)), (k P "__firstlineno__" 1704 (i 651 1703)), (k P "need" 1714 (r 939)), (k P "done" 1723 (r 946)), (k P "failed" 1733 (r 953)), (k P "__static_attributes__" 1734 (r 954))]) 7, #[]⟩
noncomputable def o929 (_ : Params) : Obj := te
noncomputable def o930 (_ : Params) : Obj := ft [653, 4, 938, 656, 4, 945, 659, 4, 952]
noncomputable def o931 (_ : Params) : Obj := ⟨(T "code"), none, .fields (fA [(s "Starter" 1695), (s "Starter" 1696), (s "/claim/cut.py" 1697), (i 651 0), (i 0 0), (i 0 0), (i 0 0), (i 0 0), (r 929), ff, (i 181 0), (r 930), nn, nn, nn, nn, (i 1698 0), (i 651 0), (s "/claim/cut.py" 1699)]), #[]⟩
noncomputable def o932 (_ : Params) : Obj := ⟨(T "frame"), none, .plain, #[some (r 931), some (r 3), some (r 928), none, some (s "framerune.mbase" 1643), none, some (r 0)]⟩
noncomputable def o933 (_ : Params) : Obj := te
noncomputable def o934 (_ : Params) : Obj := ft []
noncomputable def o935 (_ : Params) : Obj := tn ["self", "m", "kind", "why"] 1708
noncomputable def o936 (_ : Params) : Obj := te
noncomputable def o937 (_ : Params) : Obj := fo nn (fd (in_ 154 0) "Starter.need" 0 nn nn nn nn nn nn 0)
noncomputable def o938 (_ : Params) : Obj := ⟨(T "code"), none, .fields (fA [(s "need" 1705), (s "Starter.need" 1706), (s "/claim/cut.py" 1707), (i 653 0), (i 4 0), (i 0 0), (i 0 0), (i 3 0), (r 933), tt, (i 181 0), (r 934), nn, (r 935), (r 936), (r 937), (i 1712 0), (i 653 0), (s "/claim/cut.py" 1713)]), #[]⟩
noncomputable def o939 (_ : Params) : Obj := fo (T "function") (fd (in_ 154 0) "Starter.need" 3 nn nn nn (s "framerune.mbase" 1643) (r 938) nn 0)
noncomputable def o940 (_ : Params) : Obj := te
noncomputable def o941 (_ : Params) : Obj := ft []
noncomputable def o942 (_ : Params) : Obj := tn ["self", "m", "kind"] 1718
noncomputable def o943 (_ : Params) : Obj := te
noncomputable def o944 (_ : Params) : Obj := fo nn (fd (in_ 154 1) "Starter.done" 0 nn nn nn nn nn nn 0)
noncomputable def o945 (_ : Params) : Obj := ⟨(T "code"), none, .fields (fA [(s "done" 1715), (s "Starter.done" 1716), (s "/claim/cut.py" 1717), (i 656 0), (i 3 0), (i 0 0), (i 0 0), (i 3 0), (r 940), tt, (i 181 0), (r 941), nn, (r 942), (r 943), (r 944), (i 1721 0), (i 656 0), (s "/claim/cut.py" 1722)]), #[]⟩
noncomputable def o946 (_ : Params) : Obj := fo (T "function") (fd (in_ 154 1) "Starter.done" 3 nn nn nn (s "framerune.mbase" 1643) (r 945) nn 0)
noncomputable def o947 (_ : Params) : Obj := te
noncomputable def o948 (_ : Params) : Obj := ft []
noncomputable def o949 (_ : Params) : Obj := tn ["self", "m", "kind", "addr"] 1727
noncomputable def o950 (_ : Params) : Obj := te
noncomputable def o951 (_ : Params) : Obj := fo nn (fd (in_ 154 2) "Starter.failed" 0 nn nn nn nn nn nn 0)
noncomputable def o952 (_ : Params) : Obj := ⟨(T "code"), none, .fields (fA [(s "failed" 1724), (s "Starter.failed" 1725), (s "/claim/cut.py" 1726), (i 659 0), (i 4 0), (i 0 0), (i 0 0), (i 3 0), (r 947), tt, (i 181 0), (r 948), nn, (r 949), (r 950), (r 951), (i 1731 0), (i 659 0), (s "/claim/cut.py" 1732)]), #[]⟩
noncomputable def o953 (_ : Params) : Obj := fo (T "function") (fd (in_ 154 2) "Starter.failed" 3 nn nn nn (s "framerune.mbase" 1643) (r 952) nn 0)
noncomputable def o954 (_ : Params) : Obj := te
noncomputable def o955 (P : Params) : Obj := ⟨(T "dict"), none, .dict (dA [(k P "__module__" 1700 (s "framerune.mbase" 1643)), (k P "__firstlineno__" 1704 (i 651 1703)), (k P "need" 1714 (r 939)), (k P "done" 1723 (r 946)), (k P "failed" 1733 (r 953)), (k P "__static_attributes__" 1734 (r 954)), (k P "__dict__" 1736 (r 957)), (k P "__weakref__" 1738 (r 958)), (k P "__doc__" 1739 nn)]) 4, #[]⟩
noncomputable def o956 (_ : Params) : Obj := ⟨(T "type"), none, .cls (cd "Starter" [(T "object")] [(r 956), (T "object")] 955 "Starter" true []), #[none, none, some (s "Starter" 1693), some (s "Starter" 1701), some (B "object.__new__"), some tt]⟩
noncomputable def o957 (_ : Params) : Obj := ⟨(T "getset_descriptor"), none, .fields (fA [(s "__dict__" 1735), (r 956), (B "function.__dict__"), (B "function.__dict__#set")]), #[]⟩
noncomputable def o958 (_ : Params) : Obj := ⟨(T "getset_descriptor"), none, .fields (fA [(s "__weakref__" 1737), (r 956), (B "ExceptionGroup.__weakref__"), nn]), #[]⟩
noncomputable def o959 (_ : Params) : Obj := ⟨(T "super"), none, .fields (fA [(r 956), (r 956), (r 956)]), #[]⟩
noncomputable def o960 (_ : Params) : Obj := ⟨(T "builtin_function_or_method"), none, .fields (fA [(B "object.__init_subclass__"), (r 956)]), #[]⟩
noncomputable def o961 (_ : Params) : Obj := te
noncomputable def o962 (_ : Params) : Obj := ⟨(T "builtin_function_or_method"), none, .fields (fA [(B "type.__prepare__"), (T "type")]), #[]⟩
noncomputable def o963 (P : Params) : Obj := ⟨(T "dict"), none, .dict (dA [(k P "__module__" 1749 (s "framerune.mbase" 1643)), (k P "__qualname__" 1751 (s "KindCloser" 1750)), (k P "__firstlineno__" 1753 (i 661 1752)), (k P "kind" 1763 (r 974)), (k P "ref" 1773 (r 981)), (k P "__static_attributes__" 1774 (r 982))]) 6, #[]⟩
noncomputable def o964 (_ : Params) : Obj := te
noncomputable def o965 (_ : Params) : Obj := ft [663, 4, 973, 666, 4, 980]
noncomputable def o966 (_ : Params) : Obj := ⟨(T "code"), none, .fields (fA [(s "KindCloser" 1744), (s "KindCloser" 1745), (s "/claim/cut.py" 1746), (i 661 0), (i 0 0), (i 0 0), (i 0 0), (i 0 0), (r 964), ff, (i 181 0), (r 965), nn, nn, nn, nn, (i 1747 0), (i 661 0), (s "/claim/cut.py" 1748)]), #[]⟩
noncomputable def o967 (_ : Params) : Obj := ⟨(T "frame"), none, .plain, #[some (r 966), some (r 3), some (r 963), none, some (s "framerune.mbase" 1643), none, some (r 0)]⟩
noncomputable def o968 (_ : Params) : Obj := te
noncomputable def o969 (_ : Params) : Obj := ft []
noncomputable def o970 (_ : Params) : Obj := tn ["self", "m", "f", "k"] 1757
noncomputable def o971 (_ : Params) : Obj := te
noncomputable def o972 (_ : Params) : Obj := fo nn (fd (in_ 155 0) "KindCloser.kind" 0 nn nn nn nn nn nn 0)
noncomputable def o973 (_ : Params) : Obj := ⟨(T "code"), none, .fields (fA [(s "kind" 1754), (s "KindCloser.kind" 1755), (s "/claim/cut.py" 1756), (i 663 0), (i 4 0), (i 0 0), (i 0 0), (i 3 0), (r 968), tt, (i 181 0), (r 969), nn, (r 970), (r 971), (r 972), (i 1761 0), (i 663 0), (s "/claim/cut.py" 1762)]), #[]⟩
noncomputable def o974 (_ : Params) : Obj := fo (T "function") (fd (in_ 155 0) "KindCloser.kind" 3 nn nn nn (s "framerune.mbase" 1643) (r 973) nn 0)
noncomputable def o975 (_ : Params) : Obj := te
noncomputable def o976 (_ : Params) : Obj := ft []
noncomputable def o977 (_ : Params) : Obj := tn ["self", "m", "f", "fref"] 1767
noncomputable def o978 (_ : Params) : Obj := te
noncomputable def o979 (_ : Params) : Obj := fo nn (fd (in_ 155 1) "KindCloser.ref" 0 nn nn nn nn nn nn 0)
noncomputable def o980 (_ : Params) : Obj := ⟨(T "code"), none, .fields (fA [(s "ref" 1764), (s "KindCloser.ref" 1765), (s "/claim/cut.py" 1766), (i 666 0), (i 4 0), (i 0 0), (i 0 0), (i 3 0), (r 975), tt, (i 181 0), (r 976), nn, (r 977), (r 978), (r 979), (i 1771 0), (i 666 0), (s "/claim/cut.py" 1772)]), #[]⟩
noncomputable def o981 (_ : Params) : Obj := fo (T "function") (fd (in_ 155 1) "KindCloser.ref" 3 nn nn nn (s "framerune.mbase" 1643) (r 980) nn 0)
noncomputable def o982 (_ : Params) : Obj := te
noncomputable def o983 (P : Params) : Obj := ⟨(T "dict"), none, .dict (dA [(k P "__module__" 1749 (s "framerune.mbase" 1643)), (k P "__firstlineno__" 1753 (i 661 1752)), (k P "kind" 1763 (r 974)), (k P "ref" 1773 (r 981)), (k P "__static_attributes__" 1774 (r 982)), (k P "__dict__" 1776 (r 985)), (k P "__weakref__" 1778 (r 986)), (k P "__doc__" 1779 nn)]) 4, #[]⟩
noncomputable def o984 (_ : Params) : Obj := ⟨(T "type"), none, .cls (cd "KindCloser" [(T "object")] [(r 984), (T "object")] 983 "KindCloser" true []), #[none, none, some (s "KindCloser" 1742), some (s "KindCloser" 1750), some (B "object.__new__"), some tt]⟩
noncomputable def o985 (_ : Params) : Obj := ⟨(T "getset_descriptor"), none, .fields (fA [(s "__dict__" 1775), (r 984), (B "function.__dict__"), (B "function.__dict__#set")]), #[]⟩
noncomputable def o986 (_ : Params) : Obj := ⟨(T "getset_descriptor"), none, .fields (fA [(s "__weakref__" 1777), (r 984), (B "ExceptionGroup.__weakref__"), nn]), #[]⟩
noncomputable def o987 (_ : Params) : Obj := ⟨(T "super"), none, .fields (fA [(r 984), (r 984), (r 984)]), #[]⟩
noncomputable def o988 (_ : Params) : Obj := ⟨(T "builtin_function_or_method"), none, .fields (fA [(B "object.__init_subclass__"), (r 984)]), #[]⟩
noncomputable def o989 (_ : Params) : Obj := te
noncomputable def o990 (_ : Params) : Obj := ⟨(T "builtin_function_or_method"), none, .fields (fA [(B "type.__prepare__"), (T "type")]), #[]⟩
noncomputable def o991 (P : Params) : Obj := ⟨(T "dict"), none, .dict (dA [(k P "__module__" 1789 (s "framerune.mbase" 1643)), (k P "__qualname__" 1791 (s "Tray" 1790)), (k P "__firstlineno__" 1793 (i 668 1792)), (k P "__init__" 1802 (r 1002)), (k P "is_a" 1811 (r 1009)), (k P "slots_of" 1819 (r 1016)), (k P "kinds_of" 1827 (r 1023)), (k P "skinds_of" 1835 (r 1030)), (k P "slot_place" 1843 (r 1037)), (k P "target" 1852 (r 1044)), (k P "default" 1860 (r 1051)), (k P "plain" 1868 (r 1058)), (k P "closed" 1877 (r 1065)), (k P "closed_ref" 1886 (r 1072)), (k P "alloc" 1895 (r 1079)), (k P "wrong" 1903 (r 1086)), (k P "pop" 1911 (r 1093)), (k P "throw_new" 1920 (r 1100)), (k P "push_call" 1930 (r 1107)), (k P "__static_attributes__" 1952 (r 1108))]) 20, #[]⟩
noncomputable def o992 (_ : Params) : Obj := te
noncomputable def o993 (_ : Params) : Obj := ft [670, 4, 1001, 693, 4, 1008, 696, 4, 1015, 699, 4, 1022, 702, 4, 1029, 705, 4, 1036, 708, 4, 1043, 711, 4, 1050, 714, 4, 1057, 717, 4, 1064, 720, 4, 1071, 723, 4, 1078, 726, 4, 1085, 729, 4, 1092, 732, 4, 1099, 735, 4, 1106]
noncomputable def o994 (_ : Params) : Obj := ⟨(T "code"), none, .fields (fA [(s "Tray" 1784), (s "Tray" 1785), (s "/claim/cut.py" 1786), (i 668 0), (i 0 0), (i 0 0), (i 0 0), (i 0 0), (r 992), ff, (i 181 0), (r 993), nn, nn, nn, nn, (i 1787 0), (i 668 0), (s "/claim/cut.py" 1788)]), #[]⟩
noncomputable def o995 (_ : Params) : Obj := ⟨(T "frame"), none, .plain, #[some (r 994), some (r 3), some (r 991), none, some (s "framerune.mbase" 1643), none, some (r 0)]⟩
noncomputable def o996 (_ : Params) : Obj := te
noncomputable def o997 (_ : Params) : Obj := ft []
noncomputable def o998 (_ : Params) : Obj := tn ["self", "store", "heap"] 1797
noncomputable def o999 (_ : Params) : Obj := te
noncomputable def o1000 (_ : Params) : Obj := fo nn (fd (in_ 156 0) "Tray.__init__" 0 nn nn nn nn nn nn 0)
noncomputable def o1001 (_ : Params) : Obj := ⟨(T "code"), none, .fields (fA [(s "__init__" 1794), (s "Tray.__init__" 1795), (s "/claim/cut.py" 1796), (i 670 0), (i 3 0), (i 0 0), (i 0 0), (i 3 0), (r 996), tt, (i 181 0), (r 997), nn, (r 998), (r 999), (r 1000), (i 1800 0), (i 670 0), (s "/claim/cut.py" 1801)]), #[]⟩
noncomputable def o1002 (_ : Params) : Obj := fo (T "function") (fd (in_ 156 0) "Tray.__init__" 3 nn nn nn (s "framerune.mbase" 1643) (r 1001) nn 0)
noncomputable def o1003 (_ : Params) : Obj := te
noncomputable def o1004 (_ : Params) : Obj := ft []
noncomputable def o1005 (_ : Params) : Obj := tn ["self", "exact", "k"] 1806
noncomputable def o1006 (_ : Params) : Obj := te
noncomputable def o1007 (_ : Params) : Obj := fo nn (fd (in_ 156 1) "Tray.is_a" 0 nn nn nn nn nn nn 0)
noncomputable def o1008 (_ : Params) : Obj := ⟨(T "code"), none, .fields (fA [(s "is_a" 1803), (s "Tray.is_a" 1804), (s "/claim/cut.py" 1805), (i 693 0), (i 3 0), (i 0 0), (i 0 0), (i 3 0), (r 1003), tt, (i 181 0), (r 1004), nn, (r 1005), (r 1006), (r 1007), (i 1809 0), (i 693 0), (s "/claim/cut.py" 1810)]), #[]⟩
noncomputable def o1009 (_ : Params) : Obj := fo (T "function") (fd (in_ 156 1) "Tray.is_a" 3 nn nn nn (s "framerune.mbase" 1643) (r 1008) nn 0)
noncomputable def o1010 (_ : Params) : Obj := te
noncomputable def o1011 (_ : Params) : Obj := ft []
noncomputable def o1012 (_ : Params) : Obj := tn ["self", "k"] 1815
noncomputable def o1013 (_ : Params) : Obj := te
noncomputable def o1014 (_ : Params) : Obj := fo nn (fd (in_ 156 2) "Tray.slots_of" 0 nn nn nn nn nn nn 0)
noncomputable def o1015 (_ : Params) : Obj := ⟨(T "code"), none, .fields (fA [(s "slots_of" 1812), (s "Tray.slots_of" 1813), (s "/claim/cut.py" 1814), (i 696 0), (i 2 0), (i 0 0), (i 0 0), (i 3 0), (r 1010), tt, (i 181 0), (r 1011), nn, (r 1012), (r 1013), (r 1014), (i 1817 0), (i 696 0), (s "/claim/cut.py" 1818)]), #[]⟩
noncomputable def o1016 (_ : Params) : Obj := fo (T "function") (fd (in_ 156 2) "Tray.slots_of" 3 nn nn nn (s "framerune.mbase" 1643) (r 1015) nn 0)
noncomputable def o1017 (_ : Params) : Obj := te
noncomputable def o1018 (_ : Params) : Obj := ft []
noncomputable def o1019 (_ : Params) : Obj := tn ["self", "k"] 1823
noncomputable def o1020 (_ : Params) : Obj := te
noncomputable def o1021 (_ : Params) : Obj := fo nn (fd (in_ 156 3) "Tray.kinds_of" 0 nn nn nn nn nn nn 0)
noncomputable def o1022 (_ : Params) : Obj := ⟨(T "code"), none, .fields (fA [(s "kinds_of" 1820), (s "Tray.kinds_of" 1821), (s "/claim/cut.py" 1822), (i 699 0), (i 2 0), (i 0 0), (i 0 0), (i 3 0), (r 1017), tt, (i 181 0), (r 1018), nn, (r 1019), (r 1020), (r 1021), (i 1825 0), (i 699 0), (s "/claim/cut.py" 1826)]), #[]⟩
noncomputable def o1023 (_ : Params) : Obj := fo (T "function") (fd (in_ 156 3) "Tray.kinds_of" 3 nn nn nn (s "framerune.mbase" 1643) (r 1022) nn 0)
noncomputable def o1024 (_ : Params) : Obj := te
noncomputable def o1025 (_ : Params) : Obj := ft []
noncomputable def o1026 (_ : Params) : Obj := tn ["self", "k"] 1831
noncomputable def o1027 (_ : Params) : Obj := te
noncomputable def o1028 (_ : Params) : Obj := fo nn (fd (in_ 156 4) "Tray.skinds_of" 0 nn nn nn nn nn nn 0)
noncomputable def o1029 (_ : Params) : Obj := ⟨(T "code"), none, .fields (fA [(s "skinds_of" 1828), (s "Tray.skinds_of" 1829), (s "/claim/cut.py" 1830), (i 702 0), (i 2 0), (i 0 0), (i 0 0), (i 3 0), (r 1024), tt, (i 181 0), (r 1025), nn, (r 1026), (r 1027), (r 1028), (i 1833 0), (i 702 0), (s "/claim/cut.py" 1834)]), #[]⟩
noncomputable def o1030 (_ : Params) : Obj := fo (T "function") (fd (in_ 156 4) "Tray.skinds_of" 3 nn nn nn (s "framerune.mbase" 1643) (r 1029) nn 0)
noncomputable def o1031 (_ : Params) : Obj := te
noncomputable def o1032 (_ : Params) : Obj := ft []
noncomputable def o1033 (_ : Params) : Obj := tn ["self", "fref"] 1839
noncomputable def o1034 (_ : Params) : Obj := te
noncomputable def o1035 (_ : Params) : Obj := fo nn (fd (in_ 156 5) "Tray.slot_place" 0 nn nn nn nn nn nn 0)
noncomputable def o1036 (_ : Params) : Obj := ⟨(T "code"), none, .fields (fA [(s "slot_place" 1836), (s "Tray.slot_place" 1837), (s "/claim/cut.py" 1838), (i 705 0), (i 2 0), (i 0 0), (i 0 0), (i 3 0), (r 1031), tt, (i 181 0), (r 1032), nn, (r 1033), (r 1034), (r 1035), (i 1841 0), (i 705 0), (s "/claim/cut.py" 1842)]), #[]⟩
noncomputable def o1037 (_ : Params) : Obj := fo (T "function") (fd (in_ 156 5) "Tray.slot_place" 3 nn nn nn (s "framerune.mbase" 1643) (r 1036) nn 0)
noncomputable def o1038 (_ : Params) : Obj := te
noncomputable def o1039 (_ : Params) : Obj := ft []
noncomputable def o1040 (_ : Params) : Obj := tn ["self", "exact", "mref"] 1847
noncomputable def o1041 (_ : Params) : Obj := te
noncomputable def o1042 (_ : Params) : Obj := fo nn (fd (in_ 156 6) "Tray.target" 0 nn nn nn nn nn nn 0)
noncomputable def o1043 (_ : Params) : Obj := ⟨(T "code"), none, .fields (fA [(s "target" 1844), (s "Tray.target" 1845), (s "/claim/cut.py" 1846), (i 708 0), (i 3 0), (i 0 0), (i 0 0), (i 3 0), (r 1038), tt, (i 181 0), (r 1039), nn, (r 1040), (r 1041), (r 1042), (i 1850 0), (i 708 0), (s "/claim/cut.py" 1851)]), #[]⟩
noncomputable def o1044 (_ : Params) : Obj := fo (T "function") (fd (in_ 156 6) "Tray.target" 3 nn nn nn (s "framerune.mbase" 1643) (r 1043) nn 0)
noncomputable def o1045 (_ : Params) : Obj := te
noncomputable def o1046 (_ : Params) : Obj := ft []
noncomputable def o1047 (_ : Params) : Obj := tn ["self", "k"] 1856
noncomputable def o1048 (_ : Params) : Obj := te
noncomputable def o1049 (_ : Params) : Obj := fo nn (fd (in_ 156 7) "Tray.default" 0 nn nn nn nn nn nn 0)
noncomputable def o1050 (_ : Params) : Obj := ⟨(T "code"), none, .fields (fA [(s "default" 1853), (s "Tray.default" 1854), (s "/claim/cut.py" 1855), (i 711 0), (i 2 0), (i 0 0), (i 0 0), (i 3 0), (r 1045), tt, (i 181 0), (r 1046), nn, (r 1047), (r 1048), (r 1049), (i 1858 0), (i 711 0), (s "/claim/cut.py" 1859)]), #[]⟩
noncomputable def o1051 (_ : Params) : Obj := fo (T "function") (fd (in_ 156 7) "Tray.default" 3 nn nn nn (s "framerune.mbase" 1643) (r 1050) nn 0)
noncomputable def o1052 (_ : Params) : Obj := te
noncomputable def o1053 (_ : Params) : Obj := ft []
noncomputable def o1054 (_ : Params) : Obj := tn ["self", "k"] 1864
noncomputable def o1055 (_ : Params) : Obj := te
noncomputable def o1056 (_ : Params) : Obj := fo nn (fd (in_ 156 8) "Tray.plain" 0 nn nn nn nn nn nn 0)
noncomputable def o1057 (_ : Params) : Obj := ⟨(T "code"), none, .fields (fA [(s "plain" 1861), (s "Tray.plain" 1862), (s "/claim/cut.py" 1863), (i 714 0), (i 2 0), (i 0 0), (i 0 0), (i 3 0), (r 1052), tt, (i 181 0), (r 1053), nn, (r 1054), (r 1055), (r 1056), (i 1866 0), (i 714 0), (s "/claim/cut.py" 1867)]), #[]⟩
noncomputable def o1058 (_ : Params) : Obj := fo (T "function") (fd (in_ 156 8) "Tray.plain" 3 nn nn nn (s "framerune.mbase" 1643) (r 1057) nn 0)
noncomputable def o1059 (_ : Params) : Obj := te
noncomputable def o1060 (_ : Params) : Obj := ft []
noncomputable def o1061 (_ : Params) : Obj := tn ["self", "f", "k"] 1872
noncomputable def o1062 (_ : Params) : Obj := te
noncomputable def o1063 (_ : Params) : Obj := fo nn (fd (in_ 156 9) "Tray.closed" 0 nn nn nn nn nn nn 0)
noncomputable def o1064 (_ : Params) : Obj := ⟨(T "code"), none, .fields (fA [(s "closed" 1869), (s "Tray.closed" 1870), (s "/claim/cut.py" 1871), (i 717 0), (i 3 0), (i 0 0), (i 0 0), (i 3 0), (r 1059), tt, (i 181 0), (r 1060), nn, (r 1061), (r 1062), (r 1063), (i 1875 0), (i 717 0), (s "/claim/cut.py" 1876)]), #[]⟩
noncomputable def o1065 (_ : Params) : Obj := fo (T "function") (fd (in_ 156 9) "Tray.closed" 3 nn nn nn (s "framerune.mbase" 1643) (r 1064) nn 0)
noncomputable def o1066 (_ : Params) : Obj := te
noncomputable def o1067 (_ : Params) : Obj := ft []
noncomputable def o1068 (_ : Params) : Obj := tn ["self", "f", "fref"] 1881
noncomputable def o1069 (_ : Params) : Obj := te
noncomputable def o1070 (_ : Params) : Obj := fo nn (fd (in_ 156 10) "Tray.closed_ref" 0 nn nn nn nn nn nn 0)
noncomputable def o1071 (_ : Params) : Obj := ⟨(T "code"), none, .fields (fA [(s "closed_ref" 1878), (s "Tray.closed_ref" 1879), (s "/claim/cut.py" 1880), (i 720 0), (i 3 0), (i 0 0), (i 0 0), (i 3 0), (r 1066), tt, (i 181 0), (r 1067), nn, (r 1068), (r 1069), (r 1070), (i 1884 0), (i 720 0), (s "/claim/cut.py" 1885)]), #[]⟩
noncomputable def o1072 (_ : Params) : Obj := fo (T "function") (fd (in_ 156 10) "Tray.closed_ref" 3 nn nn nn (s "framerune.mbase" 1643) (r 1071) nn 0)
noncomputable def o1073 (_ : Params) : Obj := te
noncomputable def o1074 (_ : Params) : Obj := ft []
noncomputable def o1075 (_ : Params) : Obj := tn ["self", "kind", "count"] 1890
noncomputable def o1076 (_ : Params) : Obj := te
noncomputable def o1077 (_ : Params) : Obj := fo nn (fd (in_ 156 11) "Tray.alloc" 0 nn nn nn nn nn nn 0)
noncomputable def o1078 (_ : Params) : Obj := ⟨(T "code"), none, .fields (fA [(s "alloc" 1887), (s "Tray.alloc" 1888), (s "/claim/cut.py" 1889), (i 723 0), (i 3 0), (i 0 0), (i 0 0), (i 3 0), (r 1073), tt, (i 181 0), (r 1074), nn, (r 1075), (r 1076), (r 1077), (i 1893 0), (i 723 0), (s "/claim/cut.py" 1894)]), #[]⟩
noncomputable def o1079 (_ : Params) : Obj := fo (T "function") (fd (in_ 156 11) "Tray.alloc" 3 nn nn nn (s "framerune.mbase" 1643) (r 1078) nn 0)
noncomputable def o1080 (_ : Params) : Obj := te
noncomputable def o1081 (_ : Params) : Obj := ft []
noncomputable def o1082 (_ : Params) : Obj := tn ["self", "code"] 1899
noncomputable def o1083 (_ : Params) : Obj := te
noncomputable def o1084 (_ : Params) : Obj := fo nn (fd (in_ 156 12) "Tray.wrong" 0 nn nn nn nn nn nn 0)
noncomputable def o1085 (_ : Params) : Obj := ⟨(T "code"), none, .fields (fA [(s "wrong" 1896), (s "Tray.wrong" 1897), (s "/claim/cut.py" 1898), (i 726 0), (i 2 0), (i 0 0), (i 0 0), (i 3 0), (r 1080), tt, (i 181 0), (r 1081), nn, (r 1082), (r 1083), (r 1084), (i 1901 0), (i 726 0), (s "/claim/cut.py" 1902)]), #[]⟩
noncomputable def o1086 (_ : Params) : Obj := fo (T "function") (fd (in_ 156 12) "Tray.wrong" 3 nn nn nn (s "framerune.mbase" 1643) (r 1085) nn 0)
noncomputable def o1087 (_ : Params) : Obj := te
noncomputable def o1088 (_ : Params) : Obj := ft []
noncomputable def o1089 (_ : Params) : Obj := tn ["self", "f"] 1907
noncomputable def o1090 (_ : Params) : Obj := te
noncomputable def o1091 (_ : Params) : Obj := fo nn (fd (in_ 156 13) "Tray.pop" 0 nn nn nn nn nn nn 0)
noncomputable def o1092 (_ : Params) : Obj := ⟨(T "code"), none, .fields (fA [(s "pop" 1904), (s "Tray.pop" 1905), (s "/claim/cut.py" 1906), (i 729 0), (i 2 0), (i 0 0), (i 0 0), (i 3 0), (r 1087), tt, (i 181 0), (r 1088), nn, (r 1089), (r 1090), (r 1091), (i 1909 0), (i 729 0), (s "/claim/cut.py" 1910)]), #[]⟩
noncomputable def o1093 (_ : Params) : Obj := fo (T "function") (fd (in_ 156 13) "Tray.pop" 3 nn nn nn (s "framerune.mbase" 1643) (r 1092) nn 0)
noncomputable def o1094 (_ : Params) : Obj := te
noncomputable def o1095 (_ : Params) : Obj := ft []
noncomputable def o1096 (_ : Params) : Obj := tn ["self", "tid", "text"] 1915
noncomputable def o1097 (_ : Params) : Obj := te
noncomputable def o1098 (_ : Params) : Obj := fo nn (fd (in_ 156 14) "Tray.throw_new" 0 nn nn nn nn nn nn 0)
noncomputable def o1099 (_ : Params) : Obj := ⟨(T "code"), none, .fields (fA [(s "throw_new" 1912), (s "Tray.throw_new" 1913), (s "/claim/cut.py" 1914), (i 732 0), (i 3 0), (i 0 0), (i 0 0), (i 3 0), (r 1094), tt, (i 181 0), (r 1095), nn, (r 1096), (r 1097), (r 1098), (i 1918 0), (i 732 0), (s "/claim/cut.py" 1919)]), #[]⟩
noncomputable def o1100 (_ : Params) : Obj := fo (T "function") (fd (in_ 156 14) "Tray.throw_new" 3 nn nn nn (s "framerune.mbase" 1643) (r 1099) nn 0)
noncomputable def o1101 (_ : Params) : Obj := te
noncomputable def o1102 (_ : Params) : Obj := ft []
noncomputable def o1103 (_ : Params) : Obj := tn ["self", "mref", "args", "sort"] 1924
noncomputable def o1104 (_ : Params) : Obj := te
noncomputable def o1105 (_ : Params) : Obj := fo nn (fd (in_ 156 15) "Tray.push_call" 0 nn nn nn nn nn nn 0)
noncomputable def o1106 (_ : Params) : Obj := ⟨(T "code"), none, .fields (fA [(s "push_call" 1921), (s "Tray.push_call" 1922), (s "/claim/cut.py" 1923), (i 735 0), (i 4 0), (i 0 0), (i 0 0), (i 3 0), (r 1101), tt, (i 181 0), (r 1102), nn, (r 1103), (r 1104), (r 1105), (i 1928 0), (i 735 0), (s "/claim/cut.py" 1929)]), #[]⟩
noncomputable def o1107 (_ : Params) : Obj := fo (T "function") (fd (in_ 156 15) "Tray.push_call" 3 nn nn nn (s "framerune.mbase" 1643) (r 1106) nn 0)
noncomputable def o1108 (_ : Params) : Obj := tn ["by_number", "calls", "closer", "defaults", "frames", "heap", "held", "inits", "kin", "kt", "ops", "places", "rows", "starter", "state", "statics", "store", "targets", "thrown", "told", "unders"] 1931
noncomputable def o1109 (P : Params) : Obj := ⟨(T "dict"), none, .dict (dA [(k P "__module__" 1789 (s "framerune.mbase" 1643)), (k P "__firstlineno__" 1793 (i 668 1792)), (k P "__init__" 1802 (r 1002)), (k P "is_a" 1811 (r 1009)), (k P "slots_of" 1819 (r 1016)), (k P "kinds_of" 1827 (r 1023)), (k P "skinds_of" 1835 (r 1030)), (k P "slot_place" 1843 (r 1037)), (k P "target" 1852 (r 1044)), (k P "default" 1860 (r 1051)), (k P "plain" 1868 (r 1058)), (k P "closed" 1877 (r 1065)), (k P "closed_ref" 1886 (r 1072)), (k P "alloc" 1895 (r 1079)), (k P "wrong" 1903 (r 1086)), (k P "pop" 1911 (r 1093)), (k P "throw_new" 1920 (r 1100)), (k P "push_call" 1930 (r 1107)), (k P "__static_attributes__" 1952 (r 1108)), (k P "__dict__" 1954 (r 1111)), (k P "__weakref__" 1956 (r 1112)), (k P "__doc__" 1957 nn)]) 4, #[]⟩
noncomputable def o1110 (_ : Params) : Obj := ⟨(T "type"), none, .cls (cd "Tray" [(T "object")] [(r 1110), (T "object")] 1109 "Tray" true []), #[none, none, some (s "Tray" 1782), some (s "Tray" 1790), some (B "object.__new__"), some tt]⟩
noncomputable def o1111 (_ : Params) : Obj := ⟨(T "getset_descriptor"), none, .fields (fA [(s "__dict__" 1953), (r 1110), (B "function.__dict__"), (B "function.__dict__#set")]), #[]⟩
noncomputable def o1112 (_ : Params) : Obj := ⟨(T "getset_descriptor"), none, .fields (fA [(s "__weakref__" 1955), (r 1110), (B "ExceptionGroup.__weakref__"), nn]), #[]⟩
noncomputable def o1113 (_ : Params) : Obj := ⟨(T "super"), none, .fields (fA [(r 1110), (r 1110), (r 1110)]), #[]⟩
noncomputable def o1114 (_ : Params) : Obj := ⟨(T "builtin_function_or_method"), none, .fields (fA [(B "object.__init_subclass__"), (r 1110)]), #[]⟩
noncomputable def o1115 (_ : Params) : Obj := te
noncomputable def o1116 (_ : Params) : Obj := ft []
noncomputable def o1117 (_ : Params) : Obj := tn ["m", "tid"] 1963
noncomputable def o1118 (_ : Params) : Obj := te
noncomputable def o1119 (_ : Params) : Obj := fo nn (fd (at_ 157) "note_thrown" 0 nn nn nn nn nn nn 0)
noncomputable def o1120 (_ : Params) : Obj := ⟨(T "code"), none, .fields (fA [(s "note_thrown" 1960), (s "note_thrown" 1961), (s "/claim/cut.py" 1962), (i 737 0), (i 2 0), (i 0 0), (i 0 0), (i 3 0), (r 1115), tt, (i 181 0), (r 1116), nn, (r 1117), (r 1118), (r 1119), (i 1965 0), (i 737 0), (s "/claim/cut.py" 1966)]), #[]⟩
noncomputable def o1121 (_ : Params) : Obj := fo (T "function") (fd (at_ 157) "note_thrown" 3 nn nn nn (s "framerune.mbase" 1643) (r 1120) nn 0)
noncomputable def o1122 (_ : Params) : Obj := te
noncomputable def o1123 (_ : Params) : Obj := ft []
noncomputable def o1124 (_ : Params) : Obj := tn ["m", "code", "mid", "ip", "f"] 1971
noncomputable def o1125 (_ : Params) : Obj := te
noncomputable def o1126 (_ : Params) : Obj := fo nn (fd (at_ 158) "tell_wrong" 0 nn nn nn nn nn nn 0)
noncomputable def o1127 (_ : Params) : Obj := ⟨(T "code"), none, .fields (fA [(s "tell_wrong" 1968), (s "tell_wrong" 1969), (s "/claim/cut.py" 1970), (i 741 0), (i 2 0), (i 0 0), (i 0 0), (i 3 0), (r 1122), tt, (i 181 0), (r 1123), nn, (r 1124), (r 1125), (r 1126), (i 1976 0), (i 741 0), (s "/claim/cut.py" 1977)]), #[]⟩
noncomputable def o1128 (_ : Params) : Obj := fo (T "function") (fd (at_ 158) "tell_wrong" 3 nn nn nn (s "framerune.mbase" 1643) (r 1127) nn 0)
noncomputable def o1129 (_ : Params) : Obj := te
noncomputable def o1130 (_ : Params) : Obj := ft []
noncomputable def o1131 (_ : Params) : Obj := tn ["m", "f"] 1982
noncomputable def o1132 (_ : Params) : Obj := te
noncomputable def o1133 (_ : Params) : Obj := fo nn (fd (at_ 159) "pop_value" 0 nn nn nn nn nn nn 0)
noncomputable def o1134 (_ : Params) : Obj := ⟨(T "code"), none, .fields (fA [(s "pop_value" 1979), (s "pop_value" 1980), (s "/claim/cut.py" 1981), (i 752 0), (i 2 0), (i 0 0), (i 0 0), (i 3 0), (r 1129), tt, (i 181 0), (r 1130), nn, (r 1131), (r 1132), (r 1133), (i 1984 0), (i 752 0), (s "/claim/cut.py" 1985)]), #[]⟩
noncomputable def o1135 (_ : Params) : Obj := fo (T "function") (fd (at_ 159) "pop_value" 3 nn nn nn (s "framerune.mbase" 1643) (r 1134) nn 0)
noncomputable def o1136 (_ : Params) : Obj := te
noncomputable def o1137 (_ : Params) : Obj := ft []
noncomputable def o1138 (_ : Params) : Obj := tn ["yes"] 1992
noncomputable def o1139 (_ : Params) : Obj := te
noncomputable def o1140 (_ : Params) : Obj := fo nn (fd (at_ 161) "bool_value" 0 nn nn nn nn nn nn 0)
noncomputable def o1141 (_ : Params) : Obj := ⟨(T "code"), none, .fields (fA [(s "bool_value" 1989), (s "bool_value" 1990), (s "/claim/cut.py" 1991), (i 758 0), (i 1 0), (i 0 0), (i 0 0), (i 3 0), (r 1136), tt, (i 181 0), (r 1137), nn, (r 1138), (r 1139), (r 1140), (i 1993 0), (i 758 0), (s "/claim/cut.py" 1994)]), #[]⟩
noncomputable def o1142 (_ : Params) : Obj := fo (T "function") (fd (at_ 161) "bool_value" 3 nn nn nn (s "framerune.natives" 1987) (r 1141) nn 0)
noncomputable def o1143 (_ : Params) : Obj := te
noncomputable def o1144 (_ : Params) : Obj := ft []
noncomputable def o1145 (_ : Params) : Obj := tn ["m", "value"] 1999
noncomputable def o1146 (_ : Params) : Obj := te
noncomputable def o1147 (_ : Params) : Obj := fo nn (fd (at_ 162) "thing_named" 0 nn nn nn nn nn nn 0)
noncomputable def o1148 (_ : Params) : Obj := ⟨(T "code"), none, .fields (fA [(s "thing_named" 1996), (s "thing_named" 1997), (s "/claim/cut.py" 1998), (i 762 0), (i 2 0), (i 0 0), (i 0 0), (i 3 0), (r 1143), tt, (i 181 0), (r 1144), nn, (r 1145), (r 1146), (r 1147), (i 2001 0), (i 762 0), (s "/claim/cut.py" 2002)]), #[]⟩
noncomputable def o1149 (_ : Params) : Obj := fo (T "function") (fd (at_ 162) "thing_named" 3 nn nn nn (s "framerune.natives" 1987) (r 1148) nn 0)
noncomputable def o1150 (_ : Params) : Obj := te
noncomputable def o1151 (_ : Params) : Obj := ft []
noncomputable def o1152 (_ : Params) : Obj := tn ["m"] 2007
noncomputable def o1153 (_ : Params) : Obj := te
noncomputable def o1154 (_ : Params) : Obj := fo nn (fd (at_ 163) "no_object" 0 nn nn nn nn nn nn 0)
noncomputable def o1155 (_ : Params) : Obj := ⟨(T "code"), none, .fields (fA [(s "no_object" 2004), (s "no_object" 2005), (s "/claim/cut.py" 2006), (i 764 0), (i 1 0), (i 0 0), (i 0 0), (i 3 0), (r 1150), tt, (i 181 0), (r 1151), nn, (r 1152), (r 1153), (r 1154), (i 2008 0), (i 764 0), (s "/claim/cut.py" 2009)]), #[]⟩
noncomputable def o1156 (_ : Params) : Obj := fo (T "function") (fd (at_ 163) "no_object" 3 nn nn nn (s "framerune.natives" 1987) (r 1155) nn 0)
noncomputable def o1157 (_ : Params) : Obj := te
noncomputable def o1158 (_ : Params) : Obj := ft []
noncomputable def o1159 (_ : Params) : Obj := tn ["kind", "n"] 2014
noncomputable def o1160 (_ : Params) : Obj := te
noncomputable def o1161 (_ : Params) : Obj := fo nn (fd (at_ 164) "plain_number" 0 nn nn nn nn nn nn 0)
noncomputable def o1162 (_ : Params) : Obj := ⟨(T "code"), none, .fields (fA [(s "plain_number" 2011), (s "plain_number" 2012), (s "/claim/cut.py" 2013), (i 767 0), (i 2 0), (i 0 0), (i 0 0), (i 3 0), (r 1157), tt, (i 181 0), (r 1158), nn, (r 1159), (r 1160), (r 1161), (i 2016 0), (i 767 0), (s "/claim/cut.py" 2017)]), #[]⟩
noncomputable def o1163 (_ : Params) : Obj := fo (T "function") (fd (at_ 164) "plain_number" 3 nn nn nn (s "framerune.natives" 1987) (r 1162) nn 0)
noncomputable def o1164 (_ : Params) : Obj := te
noncomputable def o1165 (_ : Params) : Obj := ft []
noncomputable def o1166 (_ : Params) : Obj := tn ["kind", "n"] 2022
noncomputable def o1167 (_ : Params) : Obj := te
noncomputable def o1168 (_ : Params) : Obj := fo nn (fd (at_ 165) "number_text" 0 nn nn nn nn nn nn 0)
noncomputable def o1169 (_ : Params) : Obj := ⟨(T "code"), none, .fields (fA [(s "number_text" 2019), (s "number_text" 2020), (s "/claim/cut.py" 2021), (i 773 0), (i 2 0), (i 0 0), (i 0 0), (i 3 0), (r 1164), tt, (i 181 0), (r 1165), nn, (r 1166), (r 1167), (r 1168), (i 2024 0), (i 773 0), (s "/claim/cut.py" 2025)]), #[]⟩
noncomputable def o1170 (_ : Params) : Obj := fo (T "function") (fd (at_ 165) "number_text" 3 nn nn nn (s "framerune.natives" 1987) (r 1169) nn 0)
noncomputable def o1171 (_ : Params) : Obj := te
noncomputable def o1172 (_ : Params) : Obj := ft []
noncomputable def o1173 (_ : Params) : Obj := tn ["kind", "n"] 2030
noncomputable def o1174 (_ : Params) : Obj := te
noncomputable def o1175 (_ : Params) : Obj := fo nn (fd (at_ 166) "number_hash" 0 nn nn nn nn nn nn 0)
noncomputable def o1176 (_ : Params) : Obj := ⟨(T "code"), none, .fields (fA [(s "number_hash" 2027), (s "number_hash" 2028), (s "/claim/cut.py" 2029), (i 781 0), (i 2 0), (i 0 0), (i 0 0), (i 3 0), (r 1171), tt, (i 181 0), (r 1172), nn, (r 1173), (r 1174), (r 1175), (i 2032 0), (i 781 0), (s "/claim/cut.py" 2033)]), #[]⟩
noncomputable def o1177 (_ : Params) : Obj := fo (T "function") (fd (at_ 166) "number_hash" 3 nn nn nn (s "framerune.natives" 1987) (r 1176) nn 0)
noncomputable def o1178 (_ : Params) : Obj := te
noncomputable def o1179 (_ : Params) : Obj := ft []
noncomputable def o1180 (_ : Params) : Obj := tn ["m", "value", "kind", "held"] 2038
noncomputable def o1181 (_ : Params) : Obj := te
noncomputable def o1182 (_ : Params) : Obj := fo nn (fd (at_ 167) "this_number" 0 nn nn nn nn nn nn 0)
noncomputable def o1183 (_ : Params) : Obj := ⟨(T "code"), none, .fields (fA [(s "this_number" 2035), (s "this_number" 2036), (s "/claim/cut.py" 2037), (i 789 0), (i 3 0), (i 0 0), (i 0 0), (i 3 0), (r 1178), tt, (i 181 0), (r 1179), nn, (r 1180), (r 1181), (r 1182), (i 2042 0), (i 789 0), (s "/claim/cut.py" 2043)]), #[]⟩
noncomputable def o1184 (_ : Params) : Obj := fo (T "function") (fd (at_ 167) "this_number" 3 nn nn nn (s "framerune.natives" 1987) (r 1183) nn 0)
noncomputable def o1185 (_ : Params) : Obj := tp [(r 921)]
noncomputable def o1186 (_ : Params) : Obj := ⟨(T "builtin_function_or_method"), none, .fields (fA [(B "type.__prepare__"), (T "type")]), #[]⟩
noncomputable def o1187 (P : Params) : Obj := ⟨(T "dict"), none, .dict (dA [(k P "__module__" 2052 (s "framerune.natives" 1987)), (k P "__qualname__" 2054 (s "PrimEquals" 2053)), (k P "__firstlineno__" 2056 (i 801 2055)), (k P "__init__" 2064 (r 1198)), (k P "call" 2076 (r 1205)), (k P "__static_attributes__" 2078 (r 1206))]) 6, #[]⟩
noncomputable def o1188 (_ : Params) : Obj := te
noncomputable def o1189 (_ : Params) : Obj := ft [803, 4, 1197, 806, 4, 1204]
noncomputable def o1190 (_ : Params) : Obj := ⟨(T "code"), none, .fields (fA [(s "PrimEquals" 2047), (s "PrimEquals" 2048), (s "/claim/cut.py" 2049), (i 801 0), (i 0 0), (i 0 0), (i 0 0), (i 0 0), (r 1188), ff, (i 181 0), (r 1189), nn, nn, nn, nn, (i 2050 0), (i 801 0), (s "/claim/cut.py" 2051)]), #[]⟩
noncomputable def o1191 (_ : Params) : Obj := ⟨(T "frame"), none, .plain, #[some (r 1190), some (r 3), some (r 1187), none, some (s "framerune.natives" 1987), none, some (r 0)]⟩
noncomputable def o1192 (_ : Params) : Obj := te
noncomputable def o1193 (_ : Params) : Obj := ft []
noncomputable def o1194 (_ : Params) : Obj := tn ["self", "kind"] 2060
noncomputable def o1195 (_ : Params) : Obj := te
noncomputable def o1196 (_ : Params) : Obj := fo nn (fd (in_ 168 0) "PrimEquals.__init__" 0 nn nn nn nn nn nn 0)
noncomputable def o1197 (_ : Params) : Obj := ⟨(T "code"), none, .fields (fA [(s "__init__" 2057), (s "PrimEquals.__init__" 2058), (s "/claim/cut.py" 2059), (i 803 0), (i 2 0), (i 0 0), (i 0 0), (i 3 0), (r 1192), tt, (i 181 0), (r 1193), nn, (r 1194), (r 1195), (r 1196), (i 2062 0), (i 803 0), (s "/claim/cut.py" 2063)]), #[]⟩
noncomputable def o1198 (_ : Params) : Obj := fo (T "function") (fd (in_ 168 0) "PrimEquals.__init__" 3 nn nn nn (s "framerune.natives" 1987) (r 1197) nn 0)
noncomputable def o1199 (_ : Params) : Obj := te
noncomputable def o1200 (_ : Params) : Obj := ft []
noncomputable def o1201 (_ : Params) : Obj := tn ["self", "m", "f", "args", "n", "other"] 2068
noncomputable def o1202 (_ : Params) : Obj := te
noncomputable def o1203 (_ : Params) : Obj := fo nn (fd (in_ 168 1) "PrimEquals.call" 0 nn nn nn nn nn nn 0)
noncomputable def o1204 (_ : Params) : Obj := ⟨(T "code"), none, .fields (fA [(s "call" 2065), (s "PrimEquals.call" 2066), (s "/claim/cut.py" 2067), (i 806 0), (i 4 0), (i 0 0), (i 0 0), (i 3 0), (r 1199), tt, (i 181 0), (r 1200), nn, (r 1201), (r 1202), (r 1203), (i 2074 0), (i 806 0), (s "/claim/cut.py" 2075)]), #[]⟩
noncomputable def o1205 (_ : Params) : Obj := fo (T "function") (fd (in_ 168 1) "PrimEquals.call" 3 nn nn nn (s "framerune.natives" 1987) (r 1204) nn 0)
noncomputable def o1206 (_ : Params) : Obj := tn ["kind"] 2077
noncomputable def o1207 (P : Params) : Obj := ⟨(T "dict"), none, .dict (dA [(k P "__module__" 2052 (s "framerune.natives" 1987)), (k P "__firstlineno__" 2056 (i 801 2055)), (k P "__init__" 2064 (r 1198)), (k P "call" 2076 (r 1205)), (k P "__static_attributes__" 2078 (r 1206)), (k P "__doc__" 2079 nn)]) 2, #[]⟩
noncomputable def o1208 (_ : Params) : Obj := ⟨(T "type"), none, .cls (cd "PrimEquals" [(r 921)] [(r 1208), (r 921), (T "object")] 1207 "PrimEquals" true []), #[some (r 1185), none, some (s "PrimEquals" 2045), some (s "PrimEquals" 2053), some (B "object.__new__"), some tt]⟩
noncomputable def o1209 (_ : Params) : Obj := ⟨(T "super"), none, .fields (fA [(r 1208), (r 1208), (r 1208)]), #[]⟩
noncomputable def o1210 (_ : Params) : Obj := ⟨(T "builtin_function_or_method"), none, .fields (fA [(B "object.__init_subclass__"), (r 1208)]), #[]⟩
noncomputable def o1211 (_ : Params) : Obj := tp [(r 921)]
noncomputable def o1212 (_ : Params) : Obj := ⟨(T "builtin_function_or_method"), none, .fields (fA [(B "type.__prepare__"), (T "type")]), #[]⟩
noncomputable def o1213 (P : Params) : Obj := ⟨(T "dict"), none, .dict (dA [(k P "__module__" 2089 (s "framerune.natives" 1987)), (k P "__qualname__" 2091 (s "PrimHash" 2090)), (k P "__firstlineno__" 2093 (i 814 2092)), (k P "__init__" 2101 (r 1224)), (k P "call" 2112 (r 1231)), (k P "__static_attributes__" 2114 (r 1232))]) 6, #[]⟩
noncomputable def o1214 (_ : Params) : Obj := te
noncomputable def o1215 (_ : Params) : Obj := ft [816, 4, 1223, 819, 4, 1230]
noncomputable def o1216 (_ : Params) : Obj := ⟨(T "code"), none, .fields (fA [(s "PrimHash" 2084), (s "PrimHash" 2085), (s "/claim/cut.py" 2086), (i 814 0), (i 0 0), (i 0 0), (i 0 0), (i 0 0), (r 1214), ff, (i 181 0), (r 1215), nn, nn, nn, nn, (i 2087 0), (i 814 0), (s "/claim/cut.py" 2088)]), #[]⟩
noncomputable def o1217 (_ : Params) : Obj := ⟨(T "frame"), none, .plain, #[some (r 1216), some (r 3), some (r 1213), none, some (s "framerune.natives" 1987), none, some (r 0)]⟩
noncomputable def o1218 (_ : Params) : Obj := te
noncomputable def o1219 (_ : Params) : Obj := ft []
noncomputable def o1220 (_ : Params) : Obj := tn ["self", "kind"] 2097
noncomputable def o1221 (_ : Params) : Obj := te
noncomputable def o1222 (_ : Params) : Obj := fo nn (fd (in_ 169 0) "PrimHash.__init__" 0 nn nn nn nn nn nn 0)
noncomputable def o1223 (_ : Params) : Obj := ⟨(T "code"), none, .fields (fA [(s "__init__" 2094), (s "PrimHash.__init__" 2095), (s "/claim/cut.py" 2096), (i 816 0), (i 2 0), (i 0 0), (i 0 0), (i 3 0), (r 1218), tt, (i 181 0), (r 1219), nn, (r 1220), (r 1221), (r 1222), (i 2099 0), (i 816 0), (s "/claim/cut.py" 2100)]), #[]⟩
noncomputable def o1224 (_ : Params) : Obj := fo (T "function") (fd (in_ 169 0) "PrimHash.__init__" 3 nn nn nn (s "framerune.natives" 1987) (r 1223) nn 0)
noncomputable def o1225 (_ : Params) : Obj := te
noncomputable def o1226 (_ : Params) : Obj := ft []
noncomputable def o1227 (_ : Params) : Obj := tn ["self", "m", "f", "args", "n"] 2105
noncomputable def o1228 (_ : Params) : Obj := te
noncomputable def o1229 (_ : Params) : Obj := fo nn (fd (in_ 169 1) "PrimHash.call" 0 nn nn nn nn nn nn 0)
noncomputable def o1230 (_ : Params) : Obj := ⟨(T "code"), none, .fields (fA [(s "call" 2102), (s "PrimHash.call" 2103), (s "/claim/cut.py" 2104), (i 819 0), (i 4 0), (i 0 0), (i 0 0), (i 3 0), (r 1225), tt, (i 181 0), (r 1226), nn, (r 1227), (r 1228), (r 1229), (i 2110 0), (i 819 0), (s "/claim/cut.py" 2111)]), #[]⟩
noncomputable def o1231 (_ : Params) : Obj := fo (T "function") (fd (in_ 169 1) "PrimHash.call" 3 nn nn nn (s "framerune.natives" 1987) (r 1230) nn 0)
noncomputable def o1232 (_ : Params) : Obj := tn ["kind"] 2113
noncomputable def o1233 (P : Params) : Obj := ⟨(T "dict"), none, .dict (dA [(k P "__module__" 2089 (s "framerune.natives" 1987)), (k P "__firstlineno__" 2093 (i 814 2092)), (k P "__init__" 2101 (r 1224)), (k P "call" 2112 (r 1231)), (k P "__static_attributes__" 2114 (r 1232)), (k P "__doc__" 2115 nn)]) 2, #[]⟩
noncomputable def o1234 (_ : Params) : Obj := ⟨(T "type"), none, .cls (cd "PrimHash" [(r 921)] [(r 1234), (r 921), (T "object")] 1233 "PrimHash" true []), #[some (r 1211), none, some (s "PrimHash" 2082), some (s "PrimHash" 2090), some (B "object.__new__"), some tt]⟩
noncomputable def o1235 (_ : Params) : Obj := ⟨(T "super"), none, .fields (fA [(r 1234), (r 1234), (r 1234)]), #[]⟩
noncomputable def o1236 (_ : Params) : Obj := ⟨(T "builtin_function_or_method"), none, .fields (fA [(B "object.__init_subclass__"), (r 1234)]), #[]⟩
noncomputable def o1237 (_ : Params) : Obj := te
noncomputable def o1238 (_ : Params) : Obj := ft []
noncomputable def o1239 (_ : Params) : Obj := tn ["load"] 2133
noncomputable def o1240 (_ : Params) : Obj := te
noncomputable def o1241 (_ : Params) : Obj := fo nn (fd (at_ 176) "compare_rows" 0 nn nn nn nn nn nn 0)
noncomputable def o1242 (_ : Params) : Obj := ⟨(T "code"), none, .fields (fA [(s "compare_rows" 2130), (s "compare_rows" 2131), (s "/claim/cut.py" 2132), (i 830 0), (i 1 0), (i 0 0), (i 0 0), (i 3 0), (r 1237), tt, (i 181 0), (r 1238), nn, (r 1239), (r 1240), (r 1241), (i 2134 0), (i 830 0), (s "/claim/cut.py" 2135)]), #[]⟩
noncomputable def o1243 (_ : Params) : Obj := fo (T "function") (fd (at_ 176) "compare_rows" 3 nn nn nn (s "framerune.corelib" 2128) (r 1242) nn 0)
noncomputable def o1244 (_ : Params) : Obj := tp [(r 529)]
noncomputable def o1245 (_ : Params) : Obj := ⟨(T "builtin_function_or_method"), none, .fields (fA [(B "type.__prepare__"), (T "type")]), #[]⟩
noncomputable def o1246 (P : Params) : Obj := ⟨(T "dict"), none, .dict (dA [(k P "__module__" 2146 (s "framerune.sourcebed" 2137)), (k P "__qualname__" 2148 (s "Bed" 2147)), (k P "__firstlineno__" 2150 (i 833 2149)), (k P "__init__" 2159 (r 1257)), (k P "closed" 2168 (r 1264)), (k P "closed_ref" 2177 (r 1271)), (k P "first" 2185 (r 1278)), (k P "asked" 2193 (r 1285)), (k P "error" 2202 (r 1292)), (k P "type_item" 2210 (r 1299)), (k P "seen_as" 2219 (r 1306)), (k P "layout" 2227 (r 1313)), (k P "__static_attributes__" 2262 (r 1314))]) 13, #[]⟩
noncomputable def o1247 (_ : Params) : Obj := te
noncomputable def o1248 (_ : Params) : Obj := ft [835, 4, 1256, 871, 4, 1263, 874, 4, 1270, 877, 4, 1277, 880, 4, 1284, 883, 4, 1291, 886, 4, 1298, 889, 4, 1305, 892, 4, 1312]
noncomputable def o1249 (_ : Params) : Obj := ⟨(T "code"), none, .fields (fA [(s "Bed" 2141), (s "Bed" 2142), (s "/claim/cut.py" 2143), (i 833 0), (i 0 0), (i 0 0), (i 0 0), (i 0 0), (r 1247), ff, (i 181 0), (r 1248), nn, nn, nn, nn, (i 2144 0), (i 833 0), (s "/claim/cut.py" 2145)]), #[]⟩
noncomputable def o1250 (_ : Params) : Obj := ⟨(T "frame"), none, .plain, #[some (r 1249), some (r 3), some (r 1246), none, some (s "framerune.sourcebed" 2137), none, some (r 0)]⟩
noncomputable def o1251 (_ : Params) : Obj := te
noncomputable def o1252 (_ : Params) : Obj := ft []
noncomputable def o1253 (_ : Params) : Obj := tn ["self", "unit", "most"] 2154
noncomputable def o1254 (_ : Params) : Obj := te
noncomputable def o1255 (_ : Params) : Obj := fo nn (fd (in_ 178 0) "Bed.__init__" 0 nn nn nn nn nn nn 0)
noncomputable def o1256 (_ : Params) : Obj := ⟨(T "code"), none, .fields (fA [(s "__init__" 2151), (s "Bed.__init__" 2152), (s "/claim/cut.py" 2153), (i 835 0), (i 3 0), (i 0 0), (i 0 0), (i 3 0), (r 1251), tt, (i 181 0), (r 1252), nn, (r 1253), (r 1254), (r 1255), (i 2157 0), (i 835 0), (s "/claim/cut.py" 2158)]), #[]⟩
noncomputable def o1257 (_ : Params) : Obj := fo (T "function") (fd (in_ 178 0) "Bed.__init__" 3 nn nn nn (s "framerune.sourcebed" 2137) (r 1256) nn 0)
noncomputable def o1258 (_ : Params) : Obj := te
noncomputable def o1259 (_ : Params) : Obj := ft []
noncomputable def o1260 (_ : Params) : Obj := tn ["self", "act", "k"] 2163
noncomputable def o1261 (_ : Params) : Obj := te
noncomputable def o1262 (_ : Params) : Obj := fo nn (fd (in_ 178 1) "Bed.closed" 0 nn nn nn nn nn nn 0)
noncomputable def o1263 (_ : Params) : Obj := ⟨(T "code"), none, .fields (fA [(s "closed" 2160), (s "Bed.closed" 2161), (s "/claim/cut.py" 2162), (i 871 0), (i 3 0), (i 0 0), (i 0 0), (i 3 0), (r 1258), tt, (i 181 0), (r 1259), nn, (r 1260), (r 1261), (r 1262), (i 2166 0), (i 871 0), (s "/claim/cut.py" 2167)]), #[]⟩
noncomputable def o1264 (_ : Params) : Obj := fo (T "function") (fd (in_ 178 1) "Bed.closed" 3 nn nn nn (s "framerune.sourcebed" 2137) (r 1263) nn 0)
noncomputable def o1265 (_ : Params) : Obj := te
noncomputable def o1266 (_ : Params) : Obj := ft []
noncomputable def o1267 (_ : Params) : Obj := tn ["self", "act", "mref"] 2172
noncomputable def o1268 (_ : Params) : Obj := te
noncomputable def o1269 (_ : Params) : Obj := fo nn (fd (in_ 178 2) "Bed.closed_ref" 0 nn nn nn nn nn nn 0)
noncomputable def o1270 (_ : Params) : Obj := ⟨(T "code"), none, .fields (fA [(s "closed_ref" 2169), (s "Bed.closed_ref" 2170), (s "/claim/cut.py" 2171), (i 874 0), (i 3 0), (i 0 0), (i 0 0), (i 3 0), (r 1265), tt, (i 181 0), (r 1266), nn, (r 1267), (r 1268), (r 1269), (i 2175 0), (i 874 0), (s "/claim/cut.py" 2176)]), #[]⟩
noncomputable def o1271 (_ : Params) : Obj := fo (T "function") (fd (in_ 178 2) "Bed.closed_ref" 3 nn nn nn (s "framerune.sourcebed" 2137) (r 1270) nn 0)
noncomputable def o1272 (_ : Params) : Obj := te
noncomputable def o1273 (_ : Params) : Obj := ft []
noncomputable def o1274 (_ : Params) : Obj := tn ["self", "k"] 2181
noncomputable def o1275 (_ : Params) : Obj := te
noncomputable def o1276 (_ : Params) : Obj := fo nn (fd (in_ 178 3) "Bed.first" 0 nn nn nn nn nn nn 0)
noncomputable def o1277 (_ : Params) : Obj := ⟨(T "code"), none, .fields (fA [(s "first" 2178), (s "Bed.first" 2179), (s "/claim/cut.py" 2180), (i 877 0), (i 2 0), (i 0 0), (i 0 0), (i 3 0), (r 1272), tt, (i 181 0), (r 1273), nn, (r 1274), (r 1275), (r 1276), (i 2183 0), (i 877 0), (s "/claim/cut.py" 2184)]), #[]⟩
noncomputable def o1278 (_ : Params) : Obj := fo (T "function") (fd (in_ 178 3) "Bed.first" 3 nn nn nn (s "framerune.sourcebed" 2137) (r 1277) nn 0)
noncomputable def o1279 (_ : Params) : Obj := te
noncomputable def o1280 (_ : Params) : Obj := ft []
noncomputable def o1281 (_ : Params) : Obj := tn ["self", "k"] 2189
noncomputable def o1282 (_ : Params) : Obj := te
noncomputable def o1283 (_ : Params) : Obj := fo nn (fd (in_ 178 4) "Bed.asked" 0 nn nn nn nn nn nn 0)
noncomputable def o1284 (_ : Params) : Obj := ⟨(T "code"), none, .fields (fA [(s "asked" 2186), (s "Bed.asked" 2187), (s "/claim/cut.py" 2188), (i 880 0), (i 2 0), (i 0 0), (i 0 0), (i 3 0), (r 1279), tt, (i 181 0), (r 1280), nn, (r 1281), (r 1282), (r 1283), (i 2191 0), (i 880 0), (s "/claim/cut.py" 2192)]), #[]⟩
noncomputable def o1285 (_ : Params) : Obj := fo (T "function") (fd (in_ 178 4) "Bed.asked" 3 nn nn nn (s "framerune.sourcebed" 2137) (r 1284) nn 0)
noncomputable def o1286 (_ : Params) : Obj := te
noncomputable def o1287 (_ : Params) : Obj := ft []
noncomputable def o1288 (_ : Params) : Obj := tn ["self", "tid", "text"] 2197
noncomputable def o1289 (_ : Params) : Obj := te
noncomputable def o1290 (_ : Params) : Obj := fo nn (fd (in_ 178 5) "Bed.error" 0 nn nn nn nn nn nn 0)
noncomputable def o1291 (_ : Params) : Obj := ⟨(T "code"), none, .fields (fA [(s "error" 2194), (s "Bed.error" 2195), (s "/claim/cut.py" 2196), (i 883 0), (i 3 0), (i 0 0), (i 0 0), (i 3 0), (r 1286), tt, (i 181 0), (r 1287), nn, (r 1288), (r 1289), (r 1290), (i 2200 0), (i 883 0), (s "/claim/cut.py" 2201)]), #[]⟩
noncomputable def o1292 (_ : Params) : Obj := fo (T "function") (fd (in_ 178 5) "Bed.error" 3 nn nn nn (s "framerune.sourcebed" 2137) (r 1291) nn 0)
noncomputable def o1293 (_ : Params) : Obj := te
noncomputable def o1294 (_ : Params) : Obj := ft []
noncomputable def o1295 (_ : Params) : Obj := tn ["self", "k"] 2206
noncomputable def o1296 (_ : Params) : Obj := te
noncomputable def o1297 (_ : Params) : Obj := fo nn (fd (in_ 178 6) "Bed.type_item" 0 nn nn nn nn nn nn 0)
noncomputable def o1298 (_ : Params) : Obj := ⟨(T "code"), none, .fields (fA [(s "type_item" 2203), (s "Bed.type_item" 2204), (s "/claim/cut.py" 2205), (i 886 0), (i 2 0), (i 0 0), (i 0 0), (i 3 0), (r 1293), tt, (i 181 0), (r 1294), nn, (r 1295), (r 1296), (r 1297), (i 2208 0), (i 886 0), (s "/claim/cut.py" 2209)]), #[]⟩
noncomputable def o1299 (_ : Params) : Obj := fo (T "function") (fd (in_ 178 6) "Bed.type_item" 3 nn nn nn (s "framerune.sourcebed" 2137) (r 1298) nn 0)
noncomputable def o1300 (_ : Params) : Obj := te
noncomputable def o1301 (_ : Params) : Obj := ft []
noncomputable def o1302 (_ : Params) : Obj := tn ["self", "k", "value"] 2214
noncomputable def o1303 (_ : Params) : Obj := te
noncomputable def o1304 (_ : Params) : Obj := fo nn (fd (in_ 178 7) "Bed.seen_as" 0 nn nn nn nn nn nn 0)
noncomputable def o1305 (_ : Params) : Obj := ⟨(T "code"), none, .fields (fA [(s "seen_as" 2211), (s "Bed.seen_as" 2212), (s "/claim/cut.py" 2213), (i 889 0), (i 3 0), (i 0 0), (i 0 0), (i 3 0), (r 1300), tt, (i 181 0), (r 1301), nn, (r 1302), (r 1303), (r 1304), (i 2217 0), (i 889 0), (s "/claim/cut.py" 2218)]), #[]⟩
noncomputable def o1306 (_ : Params) : Obj := fo (T "function") (fd (in_ 178 7) "Bed.seen_as" 3 nn nn nn (s "framerune.sourcebed" 2137) (r 1305) nn 0)
noncomputable def o1307 (_ : Params) : Obj := te
noncomputable def o1308 (_ : Params) : Obj := ft []
noncomputable def o1309 (_ : Params) : Obj := tn ["self", "k"] 2223
noncomputable def o1310 (_ : Params) : Obj := te
noncomputable def o1311 (_ : Params) : Obj := fo nn (fd (in_ 178 8) "Bed.layout" 0 nn nn nn nn nn nn 0)
noncomputable def o1312 (_ : Params) : Obj := ⟨(T "code"), none, .fields (fA [(s "layout" 2220), (s "Bed.layout" 2221), (s "/claim/cut.py" 2222), (i 892 0), (i 2 0), (i 0 0), (i 0 0), (i 3 0), (r 1307), tt, (i 181 0), (r 1308), nn, (r 1309), (r 1310), (r 1311), (i 2225 0), (i 892 0), (s "/claim/cut.py" 2226)]), #[]⟩
noncomputable def o1313 (_ : Params) : Obj := fo (T "function") (fd (in_ 178 8) "Bed.layout" 3 nn nn nn (s "framerune.sourcebed" 2137) (r 1312) nn 0)
noncomputable def o1314 (_ : Params) : Obj := tn ["begins", "blocks", "calls", "core", "cut_bodies", "cuts", "defaults", "depth", "exprs", "fails", "guards", "host", "inits", "kin", "kt", "layouts", "most", "nested", "out", "places", "queue", "serial", "splits", "starts", "statics", "steps", "stmts", "store", "targets", "texts", "things", "typed", "unit", "uses"] 2228
noncomputable def o1315 (P : Params) : Obj := ⟨(T "dict"), none, .dict (dA [(k P "__module__" 2146 (s "framerune.sourcebed" 2137)), (k P "__firstlineno__" 2150 (i 833 2149)), (k P "__init__" 2159 (r 1257)), (k P "closed" 2168 (r 1264)), (k P "closed_ref" 2177 (r 1271)), (k P "first" 2185 (r 1278)), (k P "asked" 2193 (r 1285)), (k P "error" 2202 (r 1292)), (k P "type_item" 2210 (r 1299)), (k P "seen_as" 2219 (r 1306)), (k P "layout" 2227 (r 1313)), (k P "__static_attributes__" 2262 (r 1314)), (k P "__doc__" 2263 nn)]) 2, #[]⟩
noncomputable def o1316 (_ : Params) : Obj := ⟨(T "type"), none, .cls (cd "Bed" [(r 529)] [(r 1316), (r 529), (T "object")] 1315 "Bed" true []), #[some (r 1244), none, some (s "Bed" 2139), some (s "Bed" 2147), some (B "object.__new__"), some tt]⟩
noncomputable def o1317 (_ : Params) : Obj := ⟨(T "super"), none, .fields (fA [(r 1316), (r 1316), (r 1316)]), #[]⟩
noncomputable def o1318 (_ : Params) : Obj := ⟨(T "builtin_function_or_method"), none, .fields (fA [(B "object.__init_subclass__"), (r 1316)]), #[]⟩
noncomputable def o1319 (_ : Params) : Obj := te
noncomputable def o1320 (_ : Params) : Obj := ft []
noncomputable def o1321 (_ : Params) : Obj := tn ["ev", "k"] 2269
noncomputable def o1322 (_ : Params) : Obj := te
noncomputable def o1323 (_ : Params) : Obj := fo nn (fd (at_ 179) "kept_layout" 0 nn nn nn nn nn nn 0)
noncomputable def o1324 (_ : Params) : Obj := ⟨(T "code"), none, .fields (fA [(s "kept_layout" 2266), (s "kept_layout" 2267), (s "/claim/cut.py" 2268), (i 894 0), (i 2 0), (i 0 0), (i 0 0), (i 3 0), (r 1319), tt, (i 181 0), (r 1320), nn, (r 1321), (r 1322), (r 1323), (i 2271 0), (i 894 0), (s "/claim/cut.py" 2272)]), #[]⟩
noncomputable def o1325 (_ : Params) : Obj := fo (T "function") (fd (at_ 179) "kept_layout" 3 nn nn nn (s "framerune.sourcebed" 2137) (r 1324) nn 0)
noncomputable def o1326 (_ : Params) : Obj := te
noncomputable def o1327 (_ : Params) : Obj := ft []
noncomputable def o1328 (_ : Params) : Obj := tn ["ev", "k"] 2277
noncomputable def o1329 (_ : Params) : Obj := te
noncomputable def o1330 (_ : Params) : Obj := fo nn (fd (at_ 180) "is_struct" 0 nn nn nn nn nn nn 0)
noncomputable def o1331 (_ : Params) : Obj := ⟨(T "code"), none, .fields (fA [(s "is_struct" 2274), (s "is_struct" 2275), (s "/claim/cut.py" 2276), (i 898 0), (i 2 0), (i 0 0), (i 0 0), (i 3 0), (r 1326), tt, (i 181 0), (r 1327), nn, (r 1328), (r 1329), (r 1330), (i 2279 0), (i 898 0), (s "/claim/cut.py" 2280)]), #[]⟩
noncomputable def o1332 (_ : Params) : Obj := fo (T "function") (fd (at_ 180) "is_struct" 3 nn nn nn (s "framerune.sourcebed" 2137) (r 1331) nn 0)
noncomputable def o1333 (_ : Params) : Obj := te
noncomputable def o1334 (_ : Params) : Obj := ft []
noncomputable def o1335 (_ : Params) : Obj := tn ["ev", "k"] 2285
noncomputable def o1336 (_ : Params) : Obj := te
noncomputable def o1337 (_ : Params) : Obj := fo nn (fd (at_ 181) "is_composed" 0 nn nn nn nn nn nn 0)
noncomputable def o1338 (_ : Params) : Obj := ⟨(T "code"), none, .fields (fA [(s "is_composed" 2282), (s "is_composed" 2283), (s "/claim/cut.py" 2284), (i 900 0), (i 2 0), (i 0 0), (i 0 0), (i 3 0), (r 1333), tt, (i 181 0), (r 1334), nn, (r 1335), (r 1336), (r 1337), (i 2287 0), (i 900 0), (s "/claim/cut.py" 2288)]), #[]⟩
noncomputable def o1339 (_ : Params) : Obj := fo (T "function") (fd (at_ 181) "is_composed" 3 nn nn nn (s "framerune.sourcebed" 2137) (r 1338) nn 0)
noncomputable def o1340 (_ : Params) : Obj := te
noncomputable def o1341 (_ : Params) : Obj := ft []
noncomputable def o1342 (_ : Params) : Obj := tn ["ev", "k", "work", "one", "waiting", "part"] 2293
noncomputable def o1343 (_ : Params) : Obj := te
noncomputable def o1344 (_ : Params) : Obj := fo nn (fd (at_ 182) "default_of" 0 nn nn nn nn nn nn 0)
noncomputable def o1345 (_ : Params) : Obj := ⟨(T "code"), none, .fields (fA [(s "default_of" 2290), (s "default_of" 2291), (s "/claim/cut.py" 2292), (i 902 0), (i 2 0), (i 0 0), (i 0 0), (i 3 0), (r 1340), tt, (i 181 0), (r 1341), nn, (r 1342), (r 1343), (r 1344), (i 2299 0), (i 902 0), (s "/claim/cut.py" 2300)]), #[]⟩
noncomputable def o1346 (_ : Params) : Obj := fo (T "function") (fd (at_ 182) "default_of" 3 nn nn nn (s "framerune.sourcebed" 2137) (r 1345) nn 0)
noncomputable def o1347 (_ : Params) : Obj := te
noncomputable def o1348 (_ : Params) : Obj := ft []
noncomputable def o1349 (_ : Params) : Obj := fo nn (fd (at_ 183) "default_parts" 0 nn nn nn nn nn nn 0)
noncomputable def o1350 (_ : Params) : Obj := ⟨(T "code"), none, .fields (fA [(s "default_parts" 2302), (s "default_parts" 2303), (s "/claim/cut.py" 2304), (i 914 0), (i 2 0), (i 0 0), (i 0 0), (i 3 0), (r 1347), tt, (i 181 0), (r 1348), nn, nn, nn, (r 1349), (i 2305 0), (i 914 0), (s "/claim/cut.py" 2306)]), #[]⟩
noncomputable def o1351 (_ : Params) : Obj := fo (T "function") (fd (at_ 183) "default_parts" 3 nn nn nn (s "framerune.sourcebed" 2137) (r 1350) nn 0)
noncomputable def o1352 (_ : Params) : Obj := te
noncomputable def o1353 (_ : Params) : Obj := ft []
noncomputable def o1354 (_ : Params) : Obj := tn ["ev", "k", "value", "base_kind", "low", "high"] 2311
noncomputable def o1355 (_ : Params) : Obj := te
noncomputable def o1356 (_ : Params) : Obj := fo nn (fd (at_ 184) "as_twin" 0 nn nn nn nn nn nn 0)
noncomputable def o1357 (_ : Params) : Obj := ⟨(T "code"), none, .fields (fA [(s "as_twin" 2308), (s "as_twin" 2309), (s "/claim/cut.py" 2310), (i 923 0), (i 3 0), (i 0 0), (i 0 0), (i 3 0), (r 1352), tt, (i 181 0), (r 1353), nn, (r 1354), (r 1355), (r 1356), (i 2317 0), (i 923 0), (s "/claim/cut.py" 2318)]), #[]⟩
noncomputable def o1358 (_ : Params) : Obj := fo (T "function") (fd (at_ 184) "as_twin" 3 nn nn nn (s "framerune.sourcebed" 2137) (r 1357) nn 0)
noncomputable def o1359 (_ : Params) : Obj := te
noncomputable def o1360 (_ : Params) : Obj := ft []
noncomputable def o1361 (_ : Params) : Obj := tn ["kind"] 2325
noncomputable def o1362 (_ : Params) : Obj := te
noncomputable def o1363 (_ : Params) : Obj := fo nn (fd (at_ 186) "_law_bits" 0 nn nn nn nn nn nn 0)
noncomputable def o1364 (_ : Params) : Obj := ⟨(T "code"), none, .fields (fA [(s "_law_bits" 2322), (s "_law_bits" 2323), (s "/claim/cut.py" 2324), (i 930 0), (i 1 0), (i 0 0), (i 0 0), (i 3 0), (r 1359), tt, (i 181 0), (r 1360), nn, (r 1361), (r 1362), (r 1363), (i 2326 0), (i 930 0), (s "/claim/cut.py" 2327)]), #[]⟩
noncomputable def o1365 (_ : Params) : Obj := fo (T "function") (fd (at_ 186) "_law_bits" 3 nn nn nn (s "law_sz0064_01" 2320) (r 1364) nn 0)
noncomputable def o1366 (_ : Params) : Obj := te
noncomputable def o1367 (_ : Params) : Obj := ft []
noncomputable def o1368 (_ : Params) : Obj := tn ["kind", "raw"] 2332
noncomputable def o1369 (_ : Params) : Obj := te
noncomputable def o1370 (_ : Params) : Obj := fo nn (fd (at_ 187) "_law_seen" 0 nn nn nn nn nn nn 0)
noncomputable def o1371 (_ : Params) : Obj := ⟨(T "code"), none, .fields (fA [(s "_law_seen" 2329), (s "_law_seen" 2330), (s "/claim/cut.py" 2331), (i 932 0), (i 2 0), (i 0 0), (i 0 0), (i 3 0), (r 1366), tt, (i 181 0), (r 1367), nn, (r 1368), (r 1369), (r 1370), (i 2334 0), (i 932 0), (s "/claim/cut.py" 2335)]), #[]⟩
noncomputable def o1372 (_ : Params) : Obj := fo (T "function") (fd (at_ 187) "_law_seen" 3 nn nn nn (s "law_sz0064_01" 2320) (r 1371) nn 0)
noncomputable def o1373 (_ : Params) : Obj := te
noncomputable def o1374 (_ : Params) : Obj := ft []
noncomputable def o1375 (_ : Params) : Obj := tn ["kind", "n"] 2340
noncomputable def o1376 (_ : Params) : Obj := te
noncomputable def o1377 (_ : Params) : Obj := fo nn (fd (at_ 188) "_law_stored" 0 nn nn nn nn nn nn 0)
noncomputable def o1378 (_ : Params) : Obj := ⟨(T "code"), none, .fields (fA [(s "_law_stored" 2337), (s "_law_stored" 2338), (s "/claim/cut.py" 2339), (i 936 0), (i 2 0), (i 0 0), (i 0 0), (i 3 0), (r 1373), tt, (i 181 0), (r 1374), nn, (r 1375), (r 1376), (r 1377), (i 2342 0), (i 936 0), (s "/claim/cut.py" 2343)]), #[]⟩
noncomputable def o1379 (_ : Params) : Obj := fo (T "function") (fd (at_ 188) "_law_stored" 3 nn nn nn (s "law_sz0064_01" 2320) (r 1378) nn 0)
noncomputable def o1380 (_ : Params) : Obj := te
noncomputable def o1381 (_ : Params) : Obj := ft []
noncomputable def o1382 (_ : Params) : Obj := tn ["kind", "z", "whole"] 2348
noncomputable def o1383 (_ : Params) : Obj := te
noncomputable def o1384 (_ : Params) : Obj := fo nn (fd (at_ 189) "_law_raw" 0 nn nn nn nn nn nn 0)
noncomputable def o1385 (_ : Params) : Obj := ⟨(T "code"), none, .fields (fA [(s "_law_raw" 2345), (s "_law_raw" 2346), (s "/claim/cut.py" 2347), (i 944 0), (i 2 0), (i 0 0), (i 0 0), (i 3 0), (r 1380), tt, (i 181 0), (r 1381), nn, (r 1382), (r 1383), (r 1384), (i 2351 0), (i 944 0), (s "/claim/cut.py" 2352)]), #[]⟩
noncomputable def o1386 (_ : Params) : Obj := fo (T "function") (fd (at_ 189) "_law_raw" 3 nn nn nn (s "law_sz0064_01" 2320) (r 1385) nn 0)
noncomputable def o1387 (_ : Params) : Obj := te
noncomputable def o1388 (_ : Params) : Obj := ft []
noncomputable def o1389 (_ : Params) : Obj := tn ["n", "text"] 2357
noncomputable def o1390 (_ : Params) : Obj := te
noncomputable def o1391 (_ : Params) : Obj := fo nn (fd (at_ 190) "_law_digits" 0 nn nn nn nn nn nn 0)
noncomputable def o1392 (_ : Params) : Obj := ⟨(T "code"), none, .fields (fA [(s "_law_digits" 2354), (s "_law_digits" 2355), (s "/claim/cut.py" 2356), (i 947 0), (i 1 0), (i 0 0), (i 0 0), (i 3 0), (r 1387), tt, (i 181 0), (r 1388), nn, (r 1389), (r 1390), (r 1391), (i 2359 0), (i 947 0), (s "/claim/cut.py" 2360)]), #[]⟩
noncomputable def o1393 (_ : Params) : Obj := fo (T "function") (fd (at_ 190) "_law_digits" 3 nn nn nn (s "law_sz0064_01" 2320) (r 1392) nn 0)
noncomputable def o1394 (_ : Params) : Obj := te
noncomputable def o1395 (_ : Params) : Obj := ft []
noncomputable def o1396 (_ : Params) : Obj := tn ["kind", "raw"] 2365
noncomputable def o1397 (_ : Params) : Obj := te
noncomputable def o1398 (_ : Params) : Obj := fo nn (fd (at_ 191) "_law_shown" 0 nn nn nn nn nn nn 0)
noncomputable def o1399 (_ : Params) : Obj := ⟨(T "code"), none, .fields (fA [(s "_law_shown" 2362), (s "_law_shown" 2363), (s "/claim/cut.py" 2364), (i 955 0), (i 2 0), (i 0 0), (i 0 0), (i 3 0), (r 1394), tt, (i 181 0), (r 1395), nn, (r 1396), (r 1397), (r 1398), (i 2367 0), (i 955 0), (s "/claim/cut.py" 2368)]), #[]⟩
noncomputable def o1400 (_ : Params) : Obj := fo (T "function") (fd (at_ 191) "_law_shown" 3 nn nn nn (s "law_sz0064_01" 2320) (r 1399) nn 0)
noncomputable def o1401 (_ : Params) : Obj := te
noncomputable def o1402 (_ : Params) : Obj := ft []
noncomputable def o1403 (_ : Params) : Obj := tn ["kind", "raw", "whole", "high", "low"] 2373
noncomputable def o1404 (_ : Params) : Obj := te
noncomputable def o1405 (_ : Params) : Obj := fo nn (fd (at_ 192) "_law_hashed" 0 nn nn nn nn nn nn 0)
noncomputable def o1406 (_ : Params) : Obj := ⟨(T "code"), none, .fields (fA [(s "_law_hashed" 2370), (s "_law_hashed" 2371), (s "/claim/cut.py" 2372), (i 961 0), (i 2 0), (i 0 0), (i 0 0), (i 3 0), (r 1401), tt, (i 181 0), (r 1402), nn, (r 1403), (r 1404), (r 1405), (i 2378 0), (i 961 0), (s "/claim/cut.py" 2379)]), #[]⟩
noncomputable def o1407 (_ : Params) : Obj := fo (T "function") (fd (at_ 192) "_law_hashed" 3 nn nn nn (s "law_sz0064_01" 2320) (r 1406) nn 0)
noncomputable def o1408 (_ : Params) : Obj := te
noncomputable def o1409 (_ : Params) : Obj := ft []
noncomputable def o1410 (_ : Params) : Obj := tn ["w", "cells", "want"] 2384
noncomputable def o1411 (_ : Params) : Obj := te
noncomputable def o1412 (_ : Params) : Obj := fo nn (fd (at_ 193) "_law_keep" 0 nn nn nn nn nn nn 0)
noncomputable def o1413 (_ : Params) : Obj := ⟨(T "code"), none, .fields (fA [(s "_law_keep" 2381), (s "_law_keep" 2382), (s "/claim/cut.py" 2383), (i 974 0), (i 3 0), (i 0 0), (i 0 0), (i 3 0), (r 1408), tt, (i 181 0), (r 1409), nn, (r 1410), (r 1411), (r 1412), (i 2387 0), (i 974 0), (s "/claim/cut.py" 2388)]), #[]⟩
noncomputable def o1414 (_ : Params) : Obj := fo (T "function") (fd (at_ 193) "_law_keep" 3 nn nn nn (s "law_sz0064_01" 2320) (r 1413) nn 0)
noncomputable def o1415 (_ : Params) : Obj := te
noncomputable def o1416 (_ : Params) : Obj := ft []
noncomputable def o1417 (_ : Params) : Obj := tn ["w", "kind", "like", "n", "number", "thing"] 2393
noncomputable def o1418 (_ : Params) : Obj := te
noncomputable def o1419 (_ : Params) : Obj := fo nn (fd (at_ 194) "_law_box" 0 nn nn nn nn nn nn 0)
noncomputable def o1420 (_ : Params) : Obj := ⟨(T "code"), none, .fields (fA [(s "_law_box" 2390), (s "_law_box" 2391), (s "/claim/cut.py" 2392), (i 976 0), (i 4 0), (i 0 0), (i 0 0), (i 3 0), (r 1415), tt, (i 181 0), (r 1416), nn, (r 1417), (r 1418), (r 1419), (i 2399 0), (i 976 0), (s "/claim/cut.py" 2400)]), #[]⟩
noncomputable def o1421 (_ : Params) : Obj := fo (T "function") (fd (at_ 194) "_law_box" 3 nn nn nn (s "law_sz0064_01" 2320) (r 1420) nn 0)
noncomputable def o1422 (_ : Params) : Obj := te
noncomputable def o1423 (_ : Params) : Obj := ft []
noncomputable def o1424 (_ : Params) : Obj := tn ["w", "kind", "raw", "form", "box", "like", "n", "spot", "steps", "cells", "slots", "owner"] 2405
noncomputable def o1425 (_ : Params) : Obj := te
noncomputable def o1426 (_ : Params) : Obj := fo nn (fd (at_ 195) "_law_cell" 0 nn nn nn nn nn nn 0)
noncomputable def o1427 (_ : Params) : Obj := ⟨(T "code"), none, .fields (fA [(s "_law_cell" 2402), (s "_law_cell" 2403), (s "/claim/cut.py" 2404), (i 982 0), (i 4 0), (i 0 0), (i 0 0), (i 3 0), (r 1422), tt, (i 181 0), (r 1423), nn, (r 1424), (r 1425), (r 1426), (i 2417 0), (i 982 0), (s "/claim/cut.py" 2418)]), #[]⟩
noncomputable def o1428 (_ : Params) : Obj := fo (T "function") (fd (at_ 195) "_law_cell" 3 nn nn nn (s "law_sz0064_01" 2320) (r 1427) nn 0)
noncomputable def o1429 (_ : Params) : Obj := te
noncomputable def o1430 (_ : Params) : Obj := ft []
noncomputable def o1431 (_ : Params) : Obj := tn ["w", "kind", "mid", "cell", "args"] 2423
noncomputable def o1432 (_ : Params) : Obj := te
noncomputable def o1433 (_ : Params) : Obj := fo nn (fd (at_ 196) "_law_source" 0 nn nn nn nn nn nn 0)
noncomputable def o1434 (_ : Params) : Obj := ⟨(T "code"), none, .fields (fA [(s "_law_source" 2420), (s "_law_source" 2421), (s "/claim/cut.py" 2422), (i 1004 0), (i 5 0), (i 0 0), (i 0 0), (i 3 0), (r 1429), tt, (i 181 0), (r 1430), nn, (r 1431), (r 1432), (r 1433), (i 2428 0), (i 1004 0), (s "/claim/cut.py" 2429)]), #[]⟩
noncomputable def o1435 (_ : Params) : Obj := fo (T "function") (fd (at_ 196) "_law_source" 3 nn nn nn (s "law_sz0064_01" 2320) (r 1434) nn 0)
noncomputable def o1436 (_ : Params) : Obj := te
noncomputable def o1437 (_ : Params) : Obj := ft []
noncomputable def o1438 (_ : Params) : Obj := tn ["w", "kind", "raw", "cell", "ev", "count", "text", "item"] 2434
noncomputable def o1439 (_ : Params) : Obj := te
noncomputable def o1440 (_ : Params) : Obj := fo nn (fd (at_ 197) "_law_words" 0 nn nn nn nn nn nn 0)
noncomputable def o1441 (_ : Params) : Obj := ⟨(T "code"), none, .fields (fA [(s "_law_words" 2431), (s "_law_words" 2432), (s "/claim/cut.py" 2433), (i 1006 0), (i 4 0), (i 0 0), (i 0 0), (i 3 0), (r 1436), tt, (i 181 0), (r 1437), nn, (r 1438), (r 1439), (r 1440), (i 2442 0), (i 1006 0), (s "/claim/cut.py" 2443)]), #[]⟩
noncomputable def o1442 (_ : Params) : Obj := fo (T "function") (fd (at_ 197) "_law_words" 3 nn nn nn (s "law_sz0064_01" 2320) (r 1441) nn 0)
noncomputable def o1443 (_ : Params) : Obj := te
noncomputable def o1444 (_ : Params) : Obj := ft []
noncomputable def o1445 (_ : Params) : Obj := tn ["w", "kind", "raw", "cell", "want"] 2448
noncomputable def o1446 (_ : Params) : Obj := te
noncomputable def o1447 (_ : Params) : Obj := fo nn (fd (at_ 198) "_law_marks" 0 nn nn nn nn nn nn 0)
noncomputable def o1448 (_ : Params) : Obj := ⟨(T "code"), none, .fields (fA [(s "_law_marks" 2445), (s "_law_marks" 2446), (s "/claim/cut.py" 2447), (i 1016 0), (i 4 0), (i 0 0), (i 0 0), (i 3 0), (r 1443), tt, (i 181 0), (r 1444), nn, (r 1445), (r 1446), (r 1447), (i 2453 0), (i 1016 0), (s "/claim/cut.py" 2454)]), #[]⟩
noncomputable def o1449 (_ : Params) : Obj := fo (T "function") (fd (at_ 198) "_law_marks" 3 nn nn nn (s "law_sz0064_01" 2320) (r 1448) nn 0)
noncomputable def o1450 (_ : Params) : Obj := te
noncomputable def o1451 (_ : Params) : Obj := ft []
noncomputable def o1452 (_ : Params) : Obj := tn ["w", "kind", "raw", "cell", "sort", "z", "n", "turned", "far"] 2459
noncomputable def o1453 (_ : Params) : Obj := te
noncomputable def o1454 (_ : Params) : Obj := fo nn (fd (at_ 199) "_law_other" 0 nn nn nn nn nn nn 0)
noncomputable def o1455 (_ : Params) : Obj := ⟨(T "code"), none, .fields (fA [(s "_law_other" 2456), (s "_law_other" 2457), (s "/claim/cut.py" 2458), (i 1021 0), (i 6 0), (i 0 0), (i 0 0), (i 3 0), (r 1450), tt, (i 181 0), (r 1451), nn, (r 1452), (r 1453), (r 1454), (i 2468 0), (i 1021 0), (s "/claim/cut.py" 2469)]), #[]⟩
noncomputable def o1456 (_ : Params) : Obj := fo (T "function") (fd (at_ 199) "_law_other" 3 nn nn nn (s "law_sz0064_01" 2320) (r 1455) nn 0)
noncomputable def o1457 (_ : Params) : Obj := te
noncomputable def o1458 (_ : Params) : Obj := ft []
noncomputable def o1459 (_ : Params) : Obj := tn ["w", "kind", "raw", "cell", "sort", "z", "other", "same"] 2474
noncomputable def o1460 (_ : Params) : Obj := te
noncomputable def o1461 (_ : Params) : Obj := fo nn (fd (at_ 200) "_law_equals" 0 nn nn nn nn nn nn 0)
noncomputable def o1462 (_ : Params) : Obj := ⟨(T "code"), none, .fields (fA [(s "_law_equals" 2471), (s "_law_equals" 2472), (s "/claim/cut.py" 2473), (i 1040 0), (i 6 0), (i 0 0), (i 0 0), (i 3 0), (r 1457), tt, (i 181 0), (r 1458), nn, (r 1459), (r 1460), (r 1461), (i 2482 0), (i 1040 0), (s "/claim/cut.py" 2483)]), #[]⟩
noncomputable def o1463 (_ : Params) : Obj := fo (T "function") (fd (at_ 200) "_law_equals" 3 nn nn nn (s "law_sz0064_01" 2320) (r 1462) nn 0)
noncomputable def o1464 (_ : Params) : Obj := te
noncomputable def o1465 (_ : Params) : Obj := ft []
noncomputable def o1466 (_ : Params) : Obj := tn ["rows", "place", "held", "other", "stack", "op", "operand", "y", "x"] 2488
noncomputable def o1467 (_ : Params) : Obj := te
noncomputable def o1468 (_ : Params) : Obj := fo nn (fd (at_ 201) "_law_run" 0 nn nn nn nn nn nn 0)
noncomputable def o1469 (_ : Params) : Obj := ⟨(T "code"), none, .fields (fA [(s "_law_run" 2485), (s "_law_run" 2486), (s "/claim/cut.py" 2487), (i 1048 0), (i 4 0), (i 0 0), (i 0 0), (i 3 0), (r 1464), tt, (i 181 0), (r 1465), nn, (r 1466), (r 1467), (r 1468), (i 2497 0), (i 1048 0), (s "/claim/cut.py" 2498)]), #[]⟩
noncomputable def o1470 (_ : Params) : Obj := fo (T "function") (fd (at_ 201) "_law_run" 3 nn nn nn (s "law_sz0064_01" 2320) (r 1469) nn 0)
noncomputable def o1471 (_ : Params) : Obj := te
noncomputable def o1472 (_ : Params) : Obj := ft []
noncomputable def o1473 (_ : Params) : Obj := tn ["w", "kind", "raw", "cell", "sort", "z", "n", "other", "answer", "held"] 2503
noncomputable def o1474 (_ : Params) : Obj := te
noncomputable def o1475 (_ : Params) : Obj := fo nn (fd (at_ 202) "_law_compare" 0 nn nn nn nn nn nn 0)
noncomputable def o1476 (_ : Params) : Obj := ⟨(T "code"), none, .fields (fA [(s "_law_compare" 2500), (s "_law_compare" 2501), (s "/claim/cut.py" 2502), (i 1069 0), (i 6 0), (i 0 0), (i 0 0), (i 3 0), (r 1471), tt, (i 181 0), (r 1472), nn, (r 1473), (r 1474), (r 1475), (i 2513 0), (i 1069 0), (s "/claim/cut.py" 2514)]), #[]⟩
noncomputable def o1477 (_ : Params) : Obj := fo (T "function") (fd (at_ 202) "_law_compare" 3 nn nn nn (s "law_sz0064_01" 2320) (r 1476) nn 0)
noncomputable def o1478 (_ : Params) : Obj := te
noncomputable def o1479 (_ : Params) : Obj := ft []
noncomputable def o1480 (_ : Params) : Obj := tn ["w", "kind", "which", "form", "sort", "z", "raw", "cell"] 2519
noncomputable def o1481 (_ : Params) : Obj := te
noncomputable def o1482 (_ : Params) : Obj := fo nn (fd (at_ 203) "_law_ask" 0 nn nn nn nn nn nn 0)
noncomputable def o1483 (_ : Params) : Obj := ⟨(T "code"), none, .fields (fA [(s "_law_ask" 2516), (s "_law_ask" 2517), (s "/claim/cut.py" 2518), (i 1083 0), (i 6 0), (i 0 0), (i 0 0), (i 3 0), (r 1478), tt, (i 181 0), (r 1479), nn, (r 1480), (r 1481), (r 1482), (i 2527 0), (i 1083 0), (s "/claim/cut.py" 2528)]), #[]⟩
noncomputable def o1484 (_ : Params) : Obj := fo (T "function") (fd (at_ 203) "_law_ask" 3 nn nn nn (s "law_sz0064_01" 2320) (r 1483) nn 0)
noncomputable def o1485 (_ : Params) : Obj := te
noncomputable def o1486 (_ : Params) : Obj := ft []
noncomputable def o1487 (_ : Params) : Obj := fo nn (fd (at_ 204) "law" 0 nn nn nn nn nn nn 0)
noncomputable def o1488 (_ : Params) : Obj := ⟨(T "code"), none, .fields (fA [(s "law" 2530), (s "law" 2531), (s "/claim/cut.py" 2532), (i 1097 0), (i 1 0), (i 0 0), (i 0 0), (i 3 0), (r 1485), tt, (i 181 0), (r 1486), nn, nn, nn, (r 1487), (i 2533 0), (i 1097 0), (s "/claim/cut.py" 2534)]), #[]⟩
noncomputable def o1489 (_ : Params) : Obj := fo (T "function") (fd (at_ 204) "law" 3 nn nn nn (s "law_sz0064_01" 2320) (r 1488) nn 0)
noncomputable def m1024_1041 (P : Params) : BT := (n (o1041 P) e e)
noncomputable def m1024_1433 (P : Params) : BT := (n (o1433 P) e e)
noncomputable def m512_785 (P : Params) : BT := (n (o785 P) (n (o1297 P) e e) e)
noncomputable def m512_665 (P : Params) : BT := (n (o665 P) (n (o1177 P) e e) e)
noncomputable def m512_894 (P : Params) : BT := (n (o894 P) (n (o1406 P) e e) e)
noncomputable def m512_638 (P : Params) : BT := (n (o638 P) (n (o1150 P) e e) e)
noncomputable def m256_281 (P : Params) : BT := (n (o281 P) (n (o537 P) (n (o1049 P) e e) e) (n (o793 P) (n (o1305 P) e e) e))
noncomputable def m256_401 (P : Params) : BT := (n (o401 P) (n (o657 P) (n (o1169 P) e e) e) (n (o913 P) (n (o1425 P) e e) e))
noncomputable def m256_510 (P : Params) : BT := (n (o510 P) (n (o766 P) (n (o1278 P) e e) e) (n (o1022 P) e e))
noncomputable def m128_190 (P : Params) : BT := (n (o190 P) (n (o318 P) (n (o574 P) (n (o1086 P) e e) e) (n (o830 P) (n (o1342 P) e e) e)) (n (o446 P) (n (o702 P) (n (o1214 P) e e) e) (n (o958 P) (n (o1470 P) e e) e)))
noncomputable def m128_209 (P : Params) : BT := (n (o209 P) (n (o337 P) (n (o593 P) (n (o1105 P) e e) e) (n (o849 P) (n (o1361 P) e e) e)) (n (o465 P) (n (o721 P) (n (o1233 P) e e) e) (n (o977 P) (n (o1489 P) e e) e)))
noncomputable def m128_217 (P : Params) : BT := (n (o217 P) (n (o345 P) (n (o601 P) (n (o1113 P) e e) e) (n (o857 P) (n (o1369 P) e e) e)) (n (o473 P) (n (o729 P) (n (o1241 P) e e) e) (n (o985 P) e e)))
noncomputable def m64_70 (P : Params) : BT := (n (o70 P) (n (o134 P) (n (o262 P) (n (o518 P) (n (o1030 P) e e) e) (n (o774 P) (n (o1286 P) e e) e)) (n (o390 P) (n (o646 P) (n (o1158 P) e e) e) (n (o902 P) (n (o1414 P) e e) e))) (n (o198 P) (n (o326 P) (n (o582 P) (n (o1094 P) e e) e) (n (o838 P) (n (o1350 P) e e) e)) (n (o454 P) (n (o710 P) (n (o1222 P) e e) e) (n (o966 P) (n (o1478 P) e e) e))))
noncomputable def m64_94 (P : Params) : BT := (n (o94 P) (n (o158 P) (n (o286 P) (n (o542 P) (n (o1054 P) e e) e) (n (o798 P) (n (o1310 P) e e) e)) (n (o414 P) (n (o670 P) (n (o1182 P) e e) e) (n (o926 P) (n (o1438 P) e e) e))) (n (o222 P) (n (o350 P) (n (o606 P) (n (o1118 P) e e) e) (n (o862 P) (n (o1374 P) e e) e)) (n (o478 P) (n (o734 P) (n (o1246 P) e e) e) (n (o990 P) e e))))
noncomputable def m64_113 (P : Params) : BT := (n (o113 P) (n (o177 P) (n (o305 P) (n (o561 P) (n (o1073 P) e e) e) (n (o817 P) (n (o1329 P) e e) e)) (n (o433 P) (n (o689 P) (n (o1201 P) e e) e) (n (o945 P) (n (o1457 P) e e) e))) (n (o241 P) (n (o369 P) (n (o625 P) (n (o1137 P) e e) e) (n (o881 P) (n (o1393 P) e e) e)) (n (o497 P) (n (o753 P) (n (o1265 P) e e) e) (n (o1009 P) e e))))
noncomputable def m64_102 (P : Params) : BT := (n (o102 P) (n (o166 P) (n (o294 P) (n (o550 P) (n (o1062 P) e e) e) (n (o806 P) (n (o1318 P) e e) e)) (n (o422 P) (n (o678 P) (n (o1190 P) e e) e) (n (o934 P) (n (o1446 P) e e) e))) (n (o230 P) (n (o358 P) (n (o614 P) (n (o1126 P) e e) e) (n (o870 P) (n (o1382 P) e e) e)) (n (o486 P) (n (o742 P) (n (o1254 P) e e) e) (n (o998 P) e e))))
noncomputable def m64_121 (P : Params) : BT := (n (o121 P) (n (o185 P) (n (o313 P) (n (o569 P) (n (o1081 P) e e) e) (n (o825 P) (n (o1337 P) e e) e)) (n (o441 P) (n (o697 P) (n (o1209 P) e e) e) (n (o953 P) (n (o1465 P) e e) e))) (n (o249 P) (n (o377 P) (n (o633 P) (n (o1145 P) e e) e) (n (o889 P) (n (o1401 P) e e) e)) (n (o505 P) (n (o761 P) (n (o1273 P) e e) e) (n (o1017 P) e e))))
noncomputable def m32_54 (P : Params) : BT := (n (o54 P) (n (o86 P) (n (o150 P) (n (o278 P) (n (o534 P) (n (o1046 P) e e) e) (n (o790 P) (n (o1302 P) e e) e)) (n (o406 P) (n (o662 P) (n (o1174 P) e e) e) (n (o918 P) (n (o1430 P) e e) e))) (n (o214 P) (n (o342 P) (n (o598 P) (n (o1110 P) e e) e) (n (o854 P) (n (o1366 P) e e) e)) (n (o470 P) (n (o726 P) (n (o1238 P) e e) e) (n (o982 P) e e)))) (n (o118 P) (n (o182 P) (n (o310 P) (n (o566 P) (n (o1078 P) e e) e) (n (o822 P) (n (o1334 P) e e) e)) (n (o438 P) (n (o694 P) (n (o1206 P) e e) e) (n (o950 P) (n (o1462 P) e e) e))) (n (o246 P) (n (o374 P) (n (o630 P) (n (o1142 P) e e) e) (n (o886 P) (n (o1398 P) e e) e)) (n (o502 P) (n (o758 P) (n (o1270 P) e e) e) (n (o1014 P) e e)))))
noncomputable def m32_33 (P : Params) : BT := (n (o33 P) (n (o65 P) (n (o129 P) (n (o257 P) (n (o513 P) (n (o1025 P) e e) e) (n (o769 P) (n (o1281 P) e e) e)) (n (o385 P) (n (o641 P) (n (o1153 P) e e) e) (n (o897 P) (n (o1409 P) e e) e))) (n (o193 P) (n (o321 P) (n (o577 P) (n (o1089 P) e e) e) (n (o833 P) (n (o1345 P) e e) e)) (n (o449 P) (n (o705 P) (n (o1217 P) e e) e) (n (o961 P) (n (o1473 P) e e) e)))) (n (o97 P) (n (o161 P) (n (o289 P) (n (o545 P) (n (o1057 P) e e) e) (n (o801 P) (n (o1313 P) e e) e)) (n (o417 P) (n (o673 P) (n (o1185 P) e e) e) (n (o929 P) (n (o1441 P) e e) e))) (n (o225 P) (n (o353 P) (n (o609 P) (n (o1121 P) e e) e) (n (o865 P) (n (o1377 P) e e) e)) (n (o481 P) (n (o737 P) (n (o1249 P) e e) e) (n (o993 P) e e)))))
noncomputable def m32_46 (P : Params) : BT := (n (o46 P) (n (o78 P) (n (o142 P) (n (o270 P) (n (o526 P) (n (o1038 P) e e) e) (n (o782 P) (n (o1294 P) e e) e)) (n (o398 P) (n (o654 P) (n (o1166 P) e e) e) (n (o910 P) (n (o1422 P) e e) e))) (n (o206 P) (n (o334 P) (n (o590 P) (n (o1102 P) e e) e) (n (o846 P) (n (o1358 P) e e) e)) (n (o462 P) (n (o718 P) (n (o1230 P) e e) e) (n (o974 P) (n (o1486 P) e e) e)))) (n (o110 P) (n (o174 P) (n (o302 P) (n (o558 P) (n (o1070 P) e e) e) (n (o814 P) (n (o1326 P) e e) e)) (n (o430 P) (n (o686 P) (n (o1198 P) e e) e) (n (o942 P) (n (o1454 P) e e) e))) (n (o238 P) (n (o366 P) (n (o622 P) (n (o1134 P) e e) e) (n (o878 P) (n (o1390 P) e e) e)) (n (o494 P) (n (o750 P) (n (o1262 P) e e) e) (n (o1006 P) e e)))))
noncomputable def m32_41 (P : Params) : BT := (n (o41 P) (n (o73 P) (n (o137 P) (n (o265 P) (n (o521 P) (n (o1033 P) e e) e) (n (o777 P) (n (o1289 P) e e) e)) (n (o393 P) (n (o649 P) (n (o1161 P) e e) e) (n (o905 P) (n (o1417 P) e e) e))) (n (o201 P) (n (o329 P) (n (o585 P) (n (o1097 P) e e) e) (n (o841 P) (n (o1353 P) e e) e)) (n (o457 P) (n (o713 P) (n (o1225 P) e e) e) (n (o969 P) (n (o1481 P) e e) e)))) (n (o105 P) (n (o169 P) (n (o297 P) (n (o553 P) (n (o1065 P) e e) e) (n (o809 P) (n (o1321 P) e e) e)) (n (o425 P) (n (o681 P) (n (o1193 P) e e) e) (n (o937 P) (n (o1449 P) e e) e))) (n (o233 P) (n (o361 P) (n (o617 P) (n (o1129 P) e e) e) (n (o873 P) (n (o1385 P) e e) e)) (n (o489 P) (n (o745 P) (n (o1257 P) e e) e) (n (o1001 P) e e)))))
noncomputable def m16_20 (P : Params) : BT := (n (o20 P) (n (o36 P) (n (o68 P) (n (o132 P) (n (o260 P) (n (o516 P) (n (o1028 P) e e) e) (n (o772 P) (n (o1284 P) e e) e)) (n (o388 P) (n (o644 P) (n (o1156 P) e e) e) (n (o900 P) (n (o1412 P) e e) e))) (n (o196 P) (n (o324 P) (n (o580 P) (n (o1092 P) e e) e) (n (o836 P) (n (o1348 P) e e) e)) (n (o452 P) (n (o708 P) (n (o1220 P) e e) e) (n (o964 P) (n (o1476 P) e e) e)))) (n (o100 P) (n (o164 P) (n (o292 P) (n (o548 P) (n (o1060 P) e e) e) (n (o804 P) (n (o1316 P) e e) e)) (n (o420 P) (n (o676 P) (n (o1188 P) e e) e) (n (o932 P) (n (o1444 P) e e) e))) (n (o228 P) (n (o356 P) (n (o612 P) (n (o1124 P) e e) e) (n (o868 P) (n (o1380 P) e e) e)) (n (o484 P) (n (o740 P) (n (o1252 P) e e) e) (n (o996 P) e e))))) (n (o52 P) (n (o84 P) (n (o148 P) (n (o276 P) (n (o532 P) (n (o1044 P) e e) e) (n (o788 P) (n (o1300 P) e e) e)) (n (o404 P) (n (o660 P) (n (o1172 P) e e) e) (n (o916 P) (n (o1428 P) e e) e))) (n (o212 P) (n (o340 P) (n (o596 P) (n (o1108 P) e e) e) (n (o852 P) (n (o1364 P) e e) e)) (n (o468 P) (n (o724 P) (n (o1236 P) e e) e) (n (o980 P) e e)))) (n (o116 P) (n (o180 P) (n (o308 P) (n (o564 P) (n (o1076 P) e e) e) (n (o820 P) (n (o1332 P) e e) e)) (n (o436 P) (n (o692 P) (n (o1204 P) e e) e) (n (o948 P) (n (o1460 P) e e) e))) (n (o244 P) (n (o372 P) (n (o628 P) (n (o1140 P) e e) e) (n (o884 P) (n (o1396 P) e e) e)) (n (o500 P) (n (o756 P) (n (o1268 P) e e) e) (n (o1012 P) e e))))))
noncomputable def m16_25 (P : Params) : BT := (n (o25 P) (m32_41 P) (n (o57 P) (n (o89 P) (n (o153 P) (m256_281 P) (n (o409 P) (m512_665 P) (n (o921 P) (m1024_1433 P) e))) (m128_217 P)) (m64_121 P)))
noncomputable def m16_22 (P : Params) : BT := (n (o22 P) (n (o38 P) (m64_70 P) (m64_102 P)) (m32_54 P))
noncomputable def m16_28 (P : Params) : BT := (n (o28 P) (n (o44 P) (n (o76 P) (n (o140 P) (n (o268 P) (n (o524 P) (n (o1036 P) e e) e) (n (o780 P) (n (o1292 P) e e) e)) (n (o396 P) (n (o652 P) (n (o1164 P) e e) e) (n (o908 P) (n (o1420 P) e e) e))) (n (o204 P) (n (o332 P) (n (o588 P) (n (o1100 P) e e) e) (n (o844 P) (n (o1356 P) e e) e)) (n (o460 P) (n (o716 P) (n (o1228 P) e e) e) (n (o972 P) (n (o1484 P) e e) e)))) (n (o108 P) (n (o172 P) (n (o300 P) (n (o556 P) (n (o1068 P) e e) e) (n (o812 P) (n (o1324 P) e e) e)) (n (o428 P) (n (o684 P) (n (o1196 P) e e) e) (n (o940 P) (n (o1452 P) e e) e))) (n (o236 P) (n (o364 P) (n (o620 P) (n (o1132 P) e e) e) (n (o876 P) (n (o1388 P) e e) e)) (n (o492 P) (n (o748 P) (n (o1260 P) e e) e) (n (o1004 P) e e))))) (n (o60 P) (n (o92 P) (n (o156 P) (n (o284 P) (n (o540 P) (n (o1052 P) e e) e) (n (o796 P) (n (o1308 P) e e) e)) (n (o412 P) (n (o668 P) (n (o1180 P) e e) e) (n (o924 P) (n (o1436 P) e e) e))) (n (o220 P) (n (o348 P) (n (o604 P) (n (o1116 P) e e) e) (n (o860 P) (n (o1372 P) e e) e)) (n (o476 P) (n (o732 P) (n (o1244 P) e e) e) (n (o988 P) e e)))) (n (o124 P) (n (o188 P) (n (o316 P) (n (o572 P) (n (o1084 P) e e) e) (n (o828 P) (n (o1340 P) e e) e)) (n (o444 P) (n (o700 P) (n (o1212 P) e e) e) (n (o956 P) (n (o1468 P) e e) e))) (n (o252 P) (n (o380 P) (n (o636 P) (n (o1148 P) e e) e) (n (o892 P) (n (o1404 P) e e) e)) (n (o508 P) (n (o764 P) (n (o1276 P) e e) e) (n (o1020 P) e e))))))
noncomputable def m16_30 (P : Params) : BT := (n (o30 P) (m32_46 P) (n (o62 P) (m64_94 P) (n (o126 P) (m128_190 P) (n (o254 P) (n (o382 P) (m512_638 P) (m512_894 P)) (m256_510 P)))))
noncomputable def m8_13 (P : Params) : BT := (n (o13 P) (n (o21 P) (n (o37 P) (n (o69 P) (n (o133 P) (n (o261 P) (n (o517 P) (n (o1029 P) e e) e) (n (o773 P) (n (o1285 P) e e) e)) (n (o389 P) (n (o645 P) (n (o1157 P) e e) e) (n (o901 P) (n (o1413 P) e e) e))) (n (o197 P) (n (o325 P) (n (o581 P) (n (o1093 P) e e) e) (n (o837 P) (n (o1349 P) e e) e)) (n (o453 P) (n (o709 P) (n (o1221 P) e e) e) (n (o965 P) (n (o1477 P) e e) e)))) (n (o101 P) (n (o165 P) (n (o293 P) (n (o549 P) (n (o1061 P) e e) e) (n (o805 P) (n (o1317 P) e e) e)) (n (o421 P) (n (o677 P) (n (o1189 P) e e) e) (n (o933 P) (n (o1445 P) e e) e))) (n (o229 P) (n (o357 P) (n (o613 P) (n (o1125 P) e e) e) (n (o869 P) (n (o1381 P) e e) e)) (n (o485 P) (n (o741 P) (n (o1253 P) e e) e) (n (o997 P) e e))))) (n (o53 P) (n (o85 P) (n (o149 P) (n (o277 P) (n (o533 P) (n (o1045 P) e e) e) (n (o789 P) (n (o1301 P) e e) e)) (n (o405 P) (n (o661 P) (n (o1173 P) e e) e) (n (o917 P) (n (o1429 P) e e) e))) (n (o213 P) (n (o341 P) (n (o597 P) (n (o1109 P) e e) e) (n (o853 P) (n (o1365 P) e e) e)) (n (o469 P) (n (o725 P) (n (o1237 P) e e) e) (n (o981 P) e e)))) (n (o117 P) (n (o181 P) (n (o309 P) (n (o565 P) (n (o1077 P) e e) e) (n (o821 P) (n (o1333 P) e e) e)) (n (o437 P) (n (o693 P) (n (o1205 P) e e) e) (n (o949 P) (n (o1461 P) e e) e))) (n (o245 P) (n (o373 P) (n (o629 P) (n (o1141 P) e e) e) (n (o885 P) (n (o1397 P) e e) e)) (n (o501 P) (n (o757 P) (n (o1269 P) e e) e) (n (o1013 P) e e)))))) (n (o29 P) (n (o45 P) (n (o77 P) (n (o141 P) (n (o269 P) (n (o525 P) (n (o1037 P) e e) e) (n (o781 P) (n (o1293 P) e e) e)) (n (o397 P) (n (o653 P) (n (o1165 P) e e) e) (n (o909 P) (n (o1421 P) e e) e))) (n (o205 P) (n (o333 P) (n (o589 P) (n (o1101 P) e e) e) (n (o845 P) (n (o1357 P) e e) e)) (n (o461 P) (n (o717 P) (n (o1229 P) e e) e) (n (o973 P) (n (o1485 P) e e) e)))) (n (o109 P) (n (o173 P) (n (o301 P) (n (o557 P) (n (o1069 P) e e) e) (n (o813 P) (n (o1325 P) e e) e)) (n (o429 P) (n (o685 P) (n (o1197 P) e e) e) (n (o941 P) (n (o1453 P) e e) e))) (n (o237 P) (n (o365 P) (n (o621 P) (n (o1133 P) e e) e) (n (o877 P) (n (o1389 P) e e) e)) (n (o493 P) (n (o749 P) (n (o1261 P) e e) e) (n (o1005 P) e e))))) (n (o61 P) (n (o93 P) (n (o157 P) (n (o285 P) (n (o541 P) (n (o1053 P) e e) e) (n (o797 P) (n (o1309 P) e e) e)) (n (o413 P) (n (o669 P) (n (o1181 P) e e) e) (n (o925 P) (n (o1437 P) e e) e))) (n (o221 P) (n (o349 P) (n (o605 P) (n (o1117 P) e e) e) (n (o861 P) (n (o1373 P) e e) e)) (n (o477 P) (n (o733 P) (n (o1245 P) e e) e) (n (o989 P) e e)))) (n (o125 P) (n (o189 P) (n (o317 P) (n (o573 P) (n (o1085 P) e e) e) (n (o829 P) (n (o1341 P) e e) e)) (n (o445 P) (n (o701 P) (n (o1213 P) e e) e) (n (o957 P) (n (o1469 P) e e) e))) (n (o253 P) (n (o381 P) (n (o637 P) (n (o1149 P) e e) e) (n (o893 P) (n (o1405 P) e e) e)) (n (o509 P) (n (o765 P) (n (o1277 P) e e) e) (n (o1021 P) e e)))))))
noncomputable def m8_7 (P : Params) : BT := (n (o7 P) (n (o15 P) (n (o31 P) (n (o63 P) (n (o127 P) (n (o255 P) (n (o511 P) (n (o1023 P) e e) e) (n (o767 P) (n (o1279 P) e e) e)) (n (o383 P) (n (o639 P) (n (o1151 P) e e) e) (n (o895 P) (n (o1407 P) e e) e))) (n (o191 P) (n (o319 P) (n (o575 P) (n (o1087 P) e e) e) (n (o831 P) (n (o1343 P) e e) e)) (n (o447 P) (n (o703 P) (n (o1215 P) e e) e) (n (o959 P) (n (o1471 P) e e) e)))) (n (o95 P) (n (o159 P) (n (o287 P) (n (o543 P) (n (o1055 P) e e) e) (n (o799 P) (n (o1311 P) e e) e)) (n (o415 P) (n (o671 P) (n (o1183 P) e e) e) (n (o927 P) (n (o1439 P) e e) e))) (n (o223 P) (n (o351 P) (n (o607 P) (n (o1119 P) e e) e) (n (o863 P) (n (o1375 P) e e) e)) (n (o479 P) (n (o735 P) (n (o1247 P) e e) e) (n (o991 P) e e))))) (n (o47 P) (n (o79 P) (n (o143 P) (n (o271 P) (n (o527 P) (n (o1039 P) e e) e) (n (o783 P) (n (o1295 P) e e) e)) (n (o399 P) (n (o655 P) (n (o1167 P) e e) e) (n (o911 P) (n (o1423 P) e e) e))) (n (o207 P) (n (o335 P) (n (o591 P) (n (o1103 P) e e) e) (n (o847 P) (n (o1359 P) e e) e)) (n (o463 P) (n (o719 P) (n (o1231 P) e e) e) (n (o975 P) (n (o1487 P) e e) e)))) (n (o111 P) (n (o175 P) (n (o303 P) (n (o559 P) (n (o1071 P) e e) e) (n (o815 P) (n (o1327 P) e e) e)) (n (o431 P) (n (o687 P) (n (o1199 P) e e) e) (n (o943 P) (n (o1455 P) e e) e))) (n (o239 P) (n (o367 P) (n (o623 P) (n (o1135 P) e e) e) (n (o879 P) (n (o1391 P) e e) e)) (n (o495 P) (n (o751 P) (n (o1263 P) e e) e) (n (o1007 P) e e)))))) (n (o23 P) (n (o39 P) (n (o71 P) (n (o135 P) (n (o263 P) (n (o519 P) (n (o1031 P) e e) e) (n (o775 P) (n (o1287 P) e e) e)) (n (o391 P) (n (o647 P) (n (o1159 P) e e) e) (n (o903 P) (n (o1415 P) e e) e))) (n (o199 P) (n (o327 P) (n (o583 P) (n (o1095 P) e e) e) (n (o839 P) (n (o1351 P) e e) e)) (n (o455 P) (n (o711 P) (n (o1223 P) e e) e) (n (o967 P) (n (o1479 P) e e) e)))) (n (o103 P) (n (o167 P) (n (o295 P) (n (o551 P) (n (o1063 P) e e) e) (n (o807 P) (n (o1319 P) e e) e)) (n (o423 P) (n (o679 P) (n (o1191 P) e e) e) (n (o935 P) (n (o1447 P) e e) e))) (n (o231 P) (n (o359 P) (n (o615 P) (n (o1127 P) e e) e) (n (o871 P) (n (o1383 P) e e) e)) (n (o487 P) (n (o743 P) (n (o1255 P) e e) e) (n (o999 P) e e))))) (n (o55 P) (n (o87 P) (n (o151 P) (n (o279 P) (n (o535 P) (n (o1047 P) e e) e) (n (o791 P) (n (o1303 P) e e) e)) (n (o407 P) (n (o663 P) (n (o1175 P) e e) e) (n (o919 P) (n (o1431 P) e e) e))) (n (o215 P) (n (o343 P) (n (o599 P) (n (o1111 P) e e) e) (n (o855 P) (n (o1367 P) e e) e)) (n (o471 P) (n (o727 P) (n (o1239 P) e e) e) (n (o983 P) e e)))) (n (o119 P) (n (o183 P) (n (o311 P) (n (o567 P) (n (o1079 P) e e) e) (n (o823 P) (n (o1335 P) e e) e)) (n (o439 P) (n (o695 P) (n (o1207 P) e e) e) (n (o951 P) (n (o1463 P) e e) e))) (n (o247 P) (n (o375 P) (n (o631 P) (n (o1143 P) e e) e) (n (o887 P) (n (o1399 P) e e) e)) (n (o503 P) (n (o759 P) (n (o1271 P) e e) e) (n (o1015 P) e e)))))))
noncomputable def m8_8 (P : Params) : BT := (n (o8 P) (n (o16 P) (n (o32 P) (n (o64 P) (n (o128 P) (n (o256 P) (n (o512 P) (n (o1024 P) e e) e) (n (o768 P) (n (o1280 P) e e) e)) (n (o384 P) (n (o640 P) (n (o1152 P) e e) e) (n (o896 P) (n (o1408 P) e e) e))) (n (o192 P) (n (o320 P) (n (o576 P) (n (o1088 P) e e) e) (n (o832 P) (n (o1344 P) e e) e)) (n (o448 P) (n (o704 P) (n (o1216 P) e e) e) (n (o960 P) (n (o1472 P) e e) e)))) (n (o96 P) (n (o160 P) (n (o288 P) (n (o544 P) (n (o1056 P) e e) e) (n (o800 P) (n (o1312 P) e e) e)) (n (o416 P) (n (o672 P) (n (o1184 P) e e) e) (n (o928 P) (n (o1440 P) e e) e))) (n (o224 P) (n (o352 P) (n (o608 P) (n (o1120 P) e e) e) (n (o864 P) (n (o1376 P) e e) e)) (n (o480 P) (n (o736 P) (n (o1248 P) e e) e) (n (o992 P) e e))))) (n (o48 P) (n (o80 P) (n (o144 P) (n (o272 P) (n (o528 P) (n (o1040 P) e e) e) (n (o784 P) (n (o1296 P) e e) e)) (n (o400 P) (n (o656 P) (n (o1168 P) e e) e) (n (o912 P) (n (o1424 P) e e) e))) (n (o208 P) (n (o336 P) (n (o592 P) (n (o1104 P) e e) e) (n (o848 P) (n (o1360 P) e e) e)) (n (o464 P) (n (o720 P) (n (o1232 P) e e) e) (n (o976 P) (n (o1488 P) e e) e)))) (n (o112 P) (n (o176 P) (n (o304 P) (n (o560 P) (n (o1072 P) e e) e) (n (o816 P) (n (o1328 P) e e) e)) (n (o432 P) (n (o688 P) (n (o1200 P) e e) e) (n (o944 P) (n (o1456 P) e e) e))) (n (o240 P) (n (o368 P) (n (o624 P) (n (o1136 P) e e) e) (n (o880 P) (n (o1392 P) e e) e)) (n (o496 P) (n (o752 P) (n (o1264 P) e e) e) (n (o1008 P) e e)))))) (n (o24 P) (n (o40 P) (n (o72 P) (n (o136 P) (n (o264 P) (n (o520 P) (n (o1032 P) e e) e) (n (o776 P) (n (o1288 P) e e) e)) (n (o392 P) (n (o648 P) (n (o1160 P) e e) e) (n (o904 P) (n (o1416 P) e e) e))) (n (o200 P) (n (o328 P) (n (o584 P) (n (o1096 P) e e) e) (n (o840 P) (n (o1352 P) e e) e)) (n (o456 P) (n (o712 P) (n (o1224 P) e e) e) (n (o968 P) (n (o1480 P) e e) e)))) (n (o104 P) (n (o168 P) (n (o296 P) (n (o552 P) (n (o1064 P) e e) e) (n (o808 P) (n (o1320 P) e e) e)) (n (o424 P) (n (o680 P) (n (o1192 P) e e) e) (n (o936 P) (n (o1448 P) e e) e))) (n (o232 P) (n (o360 P) (n (o616 P) (n (o1128 P) e e) e) (n (o872 P) (n (o1384 P) e e) e)) (n (o488 P) (n (o744 P) (n (o1256 P) e e) e) (n (o1000 P) e e))))) (n (o56 P) (n (o88 P) (n (o152 P) (n (o280 P) (n (o536 P) (n (o1048 P) e e) e) (n (o792 P) (n (o1304 P) e e) e)) (n (o408 P) (n (o664 P) (n (o1176 P) e e) e) (n (o920 P) (n (o1432 P) e e) e))) (n (o216 P) (n (o344 P) (n (o600 P) (n (o1112 P) e e) e) (n (o856 P) (n (o1368 P) e e) e)) (n (o472 P) (n (o728 P) (n (o1240 P) e e) e) (n (o984 P) e e)))) (n (o120 P) (n (o184 P) (n (o312 P) (n (o568 P) (n (o1080 P) e e) e) (n (o824 P) (n (o1336 P) e e) e)) (n (o440 P) (n (o696 P) (n (o1208 P) e e) e) (n (o952 P) (n (o1464 P) e e) e))) (n (o248 P) (n (o376 P) (n (o632 P) (n (o1144 P) e e) e) (n (o888 P) (n (o1400 P) e e) e)) (n (o504 P) (n (o760 P) (n (o1272 P) e e) e) (n (o1016 P) e e)))))))
noncomputable def m8_10 (P : Params) : BT := (n (o10 P) (n (o18 P) (n (o34 P) (n (o66 P) (n (o130 P) (n (o258 P) (n (o514 P) (n (o1026 P) e e) e) (n (o770 P) (n (o1282 P) e e) e)) (n (o386 P) (n (o642 P) (n (o1154 P) e e) e) (n (o898 P) (n (o1410 P) e e) e))) (n (o194 P) (n (o322 P) (n (o578 P) (n (o1090 P) e e) e) (n (o834 P) (n (o1346 P) e e) e)) (n (o450 P) (n (o706 P) (n (o1218 P) e e) e) (n (o962 P) (n (o1474 P) e e) e)))) (n (o98 P) (n (o162 P) (n (o290 P) (n (o546 P) (n (o1058 P) e e) e) (n (o802 P) (n (o1314 P) e e) e)) (n (o418 P) (n (o674 P) (n (o1186 P) e e) e) (n (o930 P) (n (o1442 P) e e) e))) (n (o226 P) (n (o354 P) (n (o610 P) (n (o1122 P) e e) e) (n (o866 P) (n (o1378 P) e e) e)) (n (o482 P) (n (o738 P) (n (o1250 P) e e) e) (n (o994 P) e e))))) (n (o50 P) (n (o82 P) (n (o146 P) (n (o274 P) (n (o530 P) (n (o1042 P) e e) e) (n (o786 P) (n (o1298 P) e e) e)) (n (o402 P) (n (o658 P) (n (o1170 P) e e) e) (n (o914 P) (n (o1426 P) e e) e))) (n (o210 P) (n (o338 P) (n (o594 P) (n (o1106 P) e e) e) (n (o850 P) (n (o1362 P) e e) e)) (n (o466 P) (n (o722 P) (n (o1234 P) e e) e) (n (o978 P) e e)))) (n (o114 P) (n (o178 P) (n (o306 P) (n (o562 P) (n (o1074 P) e e) e) (n (o818 P) (n (o1330 P) e e) e)) (n (o434 P) (n (o690 P) (n (o1202 P) e e) e) (n (o946 P) (n (o1458 P) e e) e))) (n (o242 P) (n (o370 P) (n (o626 P) (n (o1138 P) e e) e) (n (o882 P) (n (o1394 P) e e) e)) (n (o498 P) (n (o754 P) (n (o1266 P) e e) e) (n (o1010 P) e e)))))) (n (o26 P) (n (o42 P) (n (o74 P) (n (o138 P) (n (o266 P) (n (o522 P) (n (o1034 P) e e) e) (n (o778 P) (n (o1290 P) e e) e)) (n (o394 P) (n (o650 P) (n (o1162 P) e e) e) (n (o906 P) (n (o1418 P) e e) e))) (n (o202 P) (n (o330 P) (n (o586 P) (n (o1098 P) e e) e) (n (o842 P) (n (o1354 P) e e) e)) (n (o458 P) (n (o714 P) (n (o1226 P) e e) e) (n (o970 P) (n (o1482 P) e e) e)))) (n (o106 P) (n (o170 P) (n (o298 P) (n (o554 P) (n (o1066 P) e e) e) (n (o810 P) (n (o1322 P) e e) e)) (n (o426 P) (n (o682 P) (n (o1194 P) e e) e) (n (o938 P) (n (o1450 P) e e) e))) (n (o234 P) (n (o362 P) (n (o618 P) (n (o1130 P) e e) e) (n (o874 P) (n (o1386 P) e e) e)) (n (o490 P) (n (o746 P) (n (o1258 P) e e) e) (n (o1002 P) e e))))) (n (o58 P) (n (o90 P) (n (o154 P) (n (o282 P) (n (o538 P) (n (o1050 P) e e) e) (n (o794 P) (n (o1306 P) e e) e)) (n (o410 P) (n (o666 P) (n (o1178 P) e e) e) (n (o922 P) (n (o1434 P) e e) e))) (n (o218 P) (n (o346 P) (n (o602 P) (n (o1114 P) e e) e) (n (o858 P) (n (o1370 P) e e) e)) (n (o474 P) (n (o730 P) (n (o1242 P) e e) e) (n (o986 P) e e)))) (n (o122 P) (n (o186 P) (n (o314 P) (n (o570 P) (n (o1082 P) e e) e) (n (o826 P) (n (o1338 P) e e) e)) (n (o442 P) (n (o698 P) (n (o1210 P) e e) e) (n (o954 P) (n (o1466 P) e e) e))) (n (o250 P) (n (o378 P) (n (o634 P) (n (o1146 P) e e) e) (n (o890 P) (n (o1402 P) e e) e)) (n (o506 P) (n (o762 P) (n (o1274 P) e e) e) (n (o1018 P) e e)))))))
noncomputable def m8_11 (P : Params) : BT := (n (o11 P) (n (o19 P) (n (o35 P) (n (o67 P) (n (o131 P) (n (o259 P) (n (o515 P) (n (o1027 P) e e) e) (n (o771 P) (n (o1283 P) e e) e)) (n (o387 P) (n (o643 P) (n (o1155 P) e e) e) (n (o899 P) (n (o1411 P) e e) e))) (n (o195 P) (n (o323 P) (n (o579 P) (n (o1091 P) e e) e) (n (o835 P) (n (o1347 P) e e) e)) (n (o451 P) (n (o707 P) (n (o1219 P) e e) e) (n (o963 P) (n (o1475 P) e e) e)))) (n (o99 P) (n (o163 P) (n (o291 P) (n (o547 P) (n (o1059 P) e e) e) (n (o803 P) (n (o1315 P) e e) e)) (n (o419 P) (n (o675 P) (n (o1187 P) e e) e) (n (o931 P) (n (o1443 P) e e) e))) (n (o227 P) (n (o355 P) (n (o611 P) (n (o1123 P) e e) e) (n (o867 P) (n (o1379 P) e e) e)) (n (o483 P) (n (o739 P) (n (o1251 P) e e) e) (n (o995 P) e e))))) (n (o51 P) (n (o83 P) (n (o147 P) (n (o275 P) (n (o531 P) (n (o1043 P) e e) e) (n (o787 P) (n (o1299 P) e e) e)) (n (o403 P) (n (o659 P) (n (o1171 P) e e) e) (n (o915 P) (n (o1427 P) e e) e))) (n (o211 P) (n (o339 P) (n (o595 P) (n (o1107 P) e e) e) (n (o851 P) (n (o1363 P) e e) e)) (n (o467 P) (n (o723 P) (n (o1235 P) e e) e) (n (o979 P) e e)))) (n (o115 P) (n (o179 P) (n (o307 P) (n (o563 P) (n (o1075 P) e e) e) (n (o819 P) (n (o1331 P) e e) e)) (n (o435 P) (n (o691 P) (n (o1203 P) e e) e) (n (o947 P) (n (o1459 P) e e) e))) (n (o243 P) (n (o371 P) (n (o627 P) (n (o1139 P) e e) e) (n (o883 P) (n (o1395 P) e e) e)) (n (o499 P) (n (o755 P) (n (o1267 P) e e) e) (n (o1011 P) e e)))))) (n (o27 P) (n (o43 P) (n (o75 P) (n (o139 P) (n (o267 P) (n (o523 P) (n (o1035 P) e e) e) (n (o779 P) (n (o1291 P) e e) e)) (n (o395 P) (n (o651 P) (n (o1163 P) e e) e) (n (o907 P) (n (o1419 P) e e) e))) (n (o203 P) (n (o331 P) (n (o587 P) (n (o1099 P) e e) e) (n (o843 P) (n (o1355 P) e e) e)) (n (o459 P) (n (o715 P) (n (o1227 P) e e) e) (n (o971 P) (n (o1483 P) e e) e)))) (n (o107 P) (n (o171 P) (n (o299 P) (n (o555 P) (n (o1067 P) e e) e) (n (o811 P) (n (o1323 P) e e) e)) (n (o427 P) (n (o683 P) (n (o1195 P) e e) e) (n (o939 P) (n (o1451 P) e e) e))) (n (o235 P) (n (o363 P) (n (o619 P) (n (o1131 P) e e) e) (n (o875 P) (n (o1387 P) e e) e)) (n (o491 P) (n (o747 P) (n (o1259 P) e e) e) (n (o1003 P) e e))))) (n (o59 P) (n (o91 P) (n (o155 P) (n (o283 P) (n (o539 P) (n (o1051 P) e e) e) (n (o795 P) (n (o1307 P) e e) e)) (n (o411 P) (n (o667 P) (n (o1179 P) e e) e) (n (o923 P) (n (o1435 P) e e) e))) (n (o219 P) (n (o347 P) (n (o603 P) (n (o1115 P) e e) e) (n (o859 P) (n (o1371 P) e e) e)) (n (o475 P) (n (o731 P) (n (o1243 P) e e) e) (n (o987 P) e e)))) (n (o123 P) (n (o187 P) (n (o315 P) (n (o571 P) (n (o1083 P) e e) e) (n (o827 P) (n (o1339 P) e e) e)) (n (o443 P) (n (o699 P) (n (o1211 P) e e) e) (n (o955 P) (n (o1467 P) e e) e))) (n (o251 P) (n (o379 P) (n (o635 P) (n (o1147 P) e e) e) (n (o891 P) (n (o1403 P) e e) e)) (n (o507 P) (n (o763 P) (n (o1275 P) e e) e) (n (o1019 P) e e)))))))
noncomputable def m4_6 (P : Params) : BT := (n (o6 P) (m8_10 P) (n (o14 P) (m16_22 P) (m16_30 P)))
noncomputable def m4_5 (P : Params) : BT := (n (o5 P) (n (o9 P) (n (o17 P) (m32_33 P) (n (o49 P) (n (o81 P) (n (o145 P) (n (o273 P) (n (o529 P) (m1024_1041 P) e) (m512_785 P)) (m256_401 P)) (m128_209 P)) (m64_113 P))) (m16_25 P)) (m8_13 P))
noncomputable def m1_0 (P : Params) : BT := (n (o0 P) (n (o1 P) (n (o3 P) (m8_7 P) (m8_11 P)) (m4_5 P)) (n (o2 P) (n (o4 P) (m8_8 P) (n (o12 P) (m16_20 P) (m16_28 P))) (m4_6 P)))
end Hd
set_option maxHeartbeats 0
namespace Hd
noncomputable def T0 (P : Params) : BT := (n (o0 P) (n (o1 P) (n (kd (o3 P) 9 9 [(0, (s "__main__" 164))]) (m8_7 P) (m8_11 P)) (m4_5 P)) (n (kd (o2 P) 0 0 []) (n (o4 P) (m8_8 P) (n (kf (o12 P) 0) (m16_20 P) (m16_28 P))) (m4_6 P)))
noncomputable def S0 (w : World) (os : OsState) : SharedT := ⟨T0 w.params, 15, {}, #[], {}, 187, os⟩
noncomputable def T1 (P : Params) : BT := (n (o0 P) (n (o1 P) (n (kd (o3 P) 9 9 [(0, (s "__main__" 164))]) (m8_7 P) (m8_11 P)) (m4_5 P)) (n (kd (o2 P) 0 0 []) (n (o4 P) (m8_8 P) (n (kf (o12 P) 0) (m16_20 P) (m16_28 P))) (m4_6 P)))
noncomputable def S1 (w : World) (os : OsState) : SharedT := ⟨T1 w.params, 15, {}, #[], {}, 187, os⟩
noncomputable def T2 (P : Params) : BT := (n (o0 P) (n (o1 P) (n (kd (o3 P) 16 16 [(0, (s "framerune.faults" 194))]) (m8_7 P) (m8_11 P)) (m4_5 P)) (n (o2 P) (n (o4 P) (m8_8 P) (n (kf (o12 P) 6) (m16_20 P) (m16_28 P))) (n (o6 P) (m8_10 P) (n (o14 P) (n (o22 P) (n ((⟨(T "type"), none, .cls (cd "RuneError" [(T "Exception")] [(r 38), (T "Exception"), (T "BaseException"), (T "object")] 37 "RuneError" true []), #[some (r 22), none, some (s "RuneError" 206), some (s "RuneError" 214), some (B "Exception.__new__"), some tt]⟩)) (m64_70 P) (m64_102 P)) (m32_54 P)) (m16_30 P)))))
noncomputable def S2 (w : World) (os : OsState) : SharedT := ⟨T2 w.params, 42, {}, #[], {}, 237, os⟩
noncomputable def T3 (P : Params) : BT := (n (o0 P) (n (o1 P) (n (kd (o3 P) 17 17 [(0, (s "framerune.faults" 194))]) (m8_7 P) (m8_11 P)) (m4_5 P)) (n (o2 P) (n (o4 P) (m8_8 P) (n (kf (o12 P) 9) (m16_20 P) (m16_28 P))) (n (o6 P) (m8_10 P) (n (o14 P) (n (o22 P) (n ((⟨(T "type"), none, .cls (cd "RuneError" [(T "Exception")] [(r 38), (T "Exception"), (T "BaseException"), (T "object")] 37 "RuneError" true [(r 51)]), #[some (r 22), none, some (s "RuneError" 206), some (s "RuneError" 214), some (B "Exception.__new__"), some tt]⟩)) (m64_70 P) (m64_102 P)) (m32_54 P)) (m16_30 P)))))
noncomputable def S3 (w : World) (os : OsState) : SharedT := ⟨T3 w.params, 54, {}, #[], {}, 253, os⟩
noncomputable def T4 (P : Params) : BT := (n (o0 P) (n (o1 P) (n (kd (o3 P) 18 18 [(0, (s "framerune.faults" 194))]) (m8_7 P) (m8_11 P)) (m4_5 P)) (n (o2 P) (n (o4 P) (m8_8 P) (n (kf (o12 P) 12) (m16_20 P) (m16_28 P))) (n (o6 P) (m8_10 P) (n (o14 P) (n (o22 P) (n ((⟨(T "type"), none, .cls (cd "RuneError" [(T "Exception")] [(r 38), (T "Exception"), (T "BaseException"), (T "object")] 37 "RuneError" true [(r 51), (r 63)]), #[some (r 22), none, some (s "RuneError" 206), some (s "RuneError" 214), some (B "Exception.__new__"), some tt]⟩)) (m64_70 P) (m64_102 P)) (m32_54 P)) (m16_30 P)))))
noncomputable def S4 (w : World) (os : OsState) : SharedT := ⟨T4 w.params, 66, {}, #[], {}, 269, os⟩
noncomputable def T5 (P : Params) : BT := (n (o0 P) (n (o1 P) (n (kd (o3 P) 38 38 [(0, (s "framerune.kinds" 285))]) (m8_7 P) (m8_11 P)) (m4_5 P)) (n (o2 P) (n (o4 P) (m8_8 P) (n (kf (o12 P) 15) (m16_20 P) (m16_28 P))) (m4_6 P)))
noncomputable def S5 (w : World) (os : OsState) : SharedT := ⟨T5 w.params, 78, {}, #[], {}, 325, os⟩
noncomputable def T6 (P : Params) : BT := (n (o0 P) (n (o1 P) (n (kd (o3 P) 49 49 [(0, (s "framerune.kinds" 285))]) (m8_7 P) (m8_11 P)) (m4_5 P)) (n (o2 P) (n (o4 P) (m8_8 P) (n (kf (o12 P) 15) (m16_20 P) (m16_28 P))) (m4_6 P)))
noncomputable def S6 (w : World) (os : OsState) : SharedT := ⟨T6 w.params, 79, {}, #[], {}, 374, os⟩
noncomputable def T7 (P : Params) : BT := (n (o0 P) (n (o1 P) (n (kd (o3 P) 52 52 [(0, (s "framerune.kinds" 285))]) (m8_7 P) (m8_11 P)) (m4_5 P)) (n (o2 P) (n (o4 P) (m8_8 P) (n (kf (o12 P) 15) (m16_20 P) (m16_28 P))) (m4_6 P)))
noncomputable def S7 (w : World) (os : OsState) : SharedT := ⟨T7 w.params, 80, {}, #[], {}, 407, os⟩
noncomputable def T8 (P : Params) : BT := (n (o0 P) (n (o1 P) (n (kd (o3 P) 53 53 [(0, (s "framerune.kinds" 285))]) (m8_7 P) (m8_11 P)) (m4_5 P)) (n (o2 P) (n (o4 P) (m8_8 P) (n (kf (o12 P) 15) (m16_20 P) (m16_28 P))) (m4_6 P)))
noncomputable def S8 (w : World) (os : OsState) : SharedT := ⟨T8 w.params, 92, {}, #[], {}, 446, os⟩
noncomputable def T9 (P : Params) : BT := (n (o0 P) (n (o1 P) (n (kd (o3 P) 57 57 [(0, (s "framerune.kinds" 285))]) (m8_7 P) (m8_11 P)) (m4_5 P)) (n (o2 P) (n (o4 P) (m8_8 P) (n (kf (o12 P) 27) (m16_20 P) (m16_28 P))) (m4_6 P)))
noncomputable def S9 (w : World) (os : OsState) : SharedT := ⟨T9 w.params, 148, {}, #[], {}, 525, os⟩
noncomputable def T10 (P : Params) : BT := (n (o0 P) (n (o1 P) (n (kd (o3 P) 69 69 [(0, (s "framerune.kinds" 285))]) (m8_7 P) (m8_11 P)) (m4_5 P)) (n (o2 P) (n (o4 P) (m8_8 P) (n (kf (o12 P) 63) (m16_20 P) (m16_28 P))) (m4_6 P)))
noncomputable def S10 (w : World) (os : OsState) : SharedT := ⟨T10 w.params, 232, {}, #[], {}, 638, os⟩
noncomputable def T11 (P : Params) : BT := (n (o0 P) (n (o1 P) (n (kd (o3 P) 96 96 [(0, (s "framerune.values" 702))]) (m8_7 P) (m8_11 P)) (m4_5 P)) (n (o2 P) (n (o4 P) (m8_8 P) (n (kf (o12 P) 81) (m16_20 P) (m16_28 P))) (m4_6 P)))
noncomputable def S11 (w : World) (os : OsState) : SharedT := ⟨T11 w.params, 275, {}, #[], {}, 734, os⟩
noncomputable def T12 (P : Params) : BT := (n (o0 P) (n (o1 P) (n (kd (o3 P) 106 106 [(0, (s "framerune.sourcecore" 817))]) (m8_7 P) (m8_11 P)) (m4_5 P)) (n (o2 P) (n (o4 P) (m8_8 P) (n (kf (o12 P) 111) (m16_20 P) (m16_28 P))) (m4_6 P)))
noncomputable def S12 (w : World) (os : OsState) : SharedT := ⟨T12 w.params, 345, {}, #[], {}, 819, os⟩
noncomputable def T13 (P : Params) : BT := (n (o0 P) (n (o1 P) (n (kd (o3 P) 107 107 [(0, (s "framerune.sourcecore" 817))]) (m8_7 P) (m8_11 P)) (m4_5 P)) (n (o2 P) (n (o4 P) (m8_8 P) (n (kf (o12 P) 114) (m16_20 P) (m16_28 P))) (m4_6 P)))
noncomputable def S13 (w : World) (os : OsState) : SharedT := ⟨T13 w.params, 366, {}, #[], {}, 856, os⟩
noncomputable def T14 (P : Params) : BT := (n (o0 P) (n (o1 P) (n (kd (o3 P) 108 108 [(0, (s "framerune.sourcecore" 817))]) (m8_7 P) (m8_11 P)) (m4_5 P)) (n (o2 P) (n (o4 P) (m8_8 P) (n (kf (o12 P) 117) (m16_20 P) (m16_28 P))) (n (o6 P) (m8_10 P) (n (o14 P) (m16_22 P) (n (o30 P) (m32_46 P) (n (o62 P) (m64_94 P) (n (o126 P) (m128_190 P) (n (o254 P) (n ((⟨(T "type"), none, .cls (cd "CoreEval" [(T "object")] [(r 382), (T "object")] 381 "CoreEval" true []), #[none, none, some (s "CoreEval" 856), some (s "CoreEval" 864), some (B "object.__new__"), some tt]⟩)) (m512_638 P) (m512_894 P)) (m256_510 P)))))))))
noncomputable def S14 (w : World) (os : OsState) : SharedT := ⟨T14 w.params, 387, {}, #[], {}, 887, os⟩
noncomputable def T15 (P : Params) : BT := (n (o0 P) (n (o1 P) (n (kd (o3 P) 109 109 [(0, (s "framerune.sourcecore" 817))]) (m8_7 P) (m8_11 P)) (m4_5 P)) (n (o2 P) (n (o4 P) (m8_8 P) (n (kf (o12 P) 120) (m16_20 P) (m16_28 P))) (n (o6 P) (m8_10 P) (n (o14 P) (m16_22 P) (n (o30 P) (m32_46 P) (n (o62 P) (m64_94 P) (n (o126 P) (m128_190 P) (n (o254 P) (n ((⟨(T "type"), none, .cls (cd "CoreEval" [(T "object")] [(r 382), (T "object")] 381 "CoreEval" true []), #[none, none, some (s "CoreEval" 856), some (s "CoreEval" 864), some (B "object.__new__"), some tt]⟩)) (m512_638 P) (m512_894 P)) (m256_510 P)))))))))
noncomputable def S15 (w : World) (os : OsState) : SharedT := ⟨T15 w.params, 408, {}, #[], {}, 916, os⟩
noncomputable def T16 (P : Params) : BT := (n (o0 P) (n (o1 P) (n (kd (o3 P) 110 110 [(0, (s "framerune.sourcecore" 817))]) (m8_7 P) (m8_11 P)) (m4_5 P)) (n (o2 P) (n (o4 P) (m8_8 P) (n (kf (o12 P) 123) (m16_20 P) (m16_28 P))) (n (o6 P) (m8_10 P) (n (o14 P) (m16_22 P) (n (o30 P) (m32_46 P) (n (o62 P) (m64_94 P) (n (o126 P) (m128_190 P) (n (o254 P) (n ((⟨(T "type"), none, .cls (cd "CoreEval" [(T "object")] [(r 382), (T "object")] 381 "CoreEval" true []), #[none, none, some (s "CoreEval" 856), some (s "CoreEval" 864), some (B "object.__new__"), some tt]⟩)) (m512_638 P) (m512_894 P)) (m256_510 P)))))))))
noncomputable def S16 (w : World) (os : OsState) : SharedT := ⟨T16 w.params, 429, {}, #[], {}, 946, os⟩
noncomputable def T17 (P : Params) : BT := (n (o0 P) (n (o1 P) (n (kd (o3 P) 111 111 [(0, (s "framerune.sourcecore" 817))]) (m8_7 P) (m8_11 P)) (m4_5 P)) (n (o2 P) (n (o4 P) (m8_8 P) (n (kf (o12 P) 126) (m16_20 P) (m16_28 P))) (n (o6 P) (m8_10 P) (n (o14 P) (m16_22 P) (n (o30 P) (m32_46 P) (n (o62 P) (m64_94 P) (n (o126 P) (m128_190 P) (n (o254 P) (n ((⟨(T "type"), none, .cls (cd "CoreEval" [(T "object")] [(r 382), (T "object")] 381 "CoreEval" true []), #[none, none, some (s "CoreEval" 856), some (s "CoreEval" 864), some (B "object.__new__"), some tt]⟩)) (m512_638 P) (m512_894 P)) (m256_510 P)))))))))
noncomputable def S17 (w : World) (os : OsState) : SharedT := ⟨T17 w.params, 457, {}, #[], {}, 985, os⟩
noncomputable def T18 (P : Params) : BT := (n (o0 P) (n (o1 P) (n (kd (o3 P) 112 112 [(0, (s "framerune.sourcecore" 817))]) (m8_7 P) (m8_11 P)) (n (o5 P) (n (o9 P) (n (o17 P) (m32_33 P) (n (o49 P) (n (o81 P) (n (o145 P) (n (o273 P) (n ((⟨(T "type"), none, .cls (cd "Plot" [(T "object")] [(r 529), (T "object")] 528 "Plot" true []), #[none, none, some (s "Plot" 985), some (s "Plot" 993), some (B "object.__new__"), some tt]⟩)) (m1024_1041 P) e) (m512_785 P)) (m256_401 P)) (m128_209 P)) (m64_113 P))) (m16_25 P)) (m8_13 P))) (n (o2 P) (n (o4 P) (m8_8 P) (n (kf (o12 P) 129) (m16_20 P) (m16_28 P))) (n (o6 P) (m8_10 P) (n (o14 P) (m16_22 P) (n (o30 P) (m32_46 P) (n (o62 P) (m64_94 P) (n (o126 P) (m128_190 P) (n (o254 P) (n ((⟨(T "type"), none, .cls (cd "CoreEval" [(T "object")] [(r 382), (T "object")] 381 "CoreEval" true []), #[none, none, some (s "CoreEval" 856), some (s "CoreEval" 864), some (B "object.__new__"), some tt]⟩)) (m512_638 P) (m512_894 P)) (m256_510 P)))))))))
noncomputable def S18 (w : World) (os : OsState) : SharedT := ⟨T18 w.params, 534, {}, #[], {}, 1107, os⟩
noncomputable def T19 (P : Params) : BT := (n (o0 P) (n (o1 P) (n (kd (o3 P) 121 121 [(0, (s "framerune.sourcelib" 1153))]) (m8_7 P) (m8_11 P)) (n (o5 P) (n (o9 P) (n (o17 P) (m32_33 P) (n (o49 P) (n (o81 P) (n (o145 P) (n (o273 P) (n ((⟨(T "type"), none, .cls (cd "Plot" [(T "object")] [(r 529), (T "object")] 528 "Plot" true []), #[none, none, some (s "Plot" 985), some (s "Plot" 993), some (B "object.__new__"), some tt]⟩)) (m1024_1041 P) e) (m512_785 P)) (m256_401 P)) (m128_209 P)) (m64_113 P))) (m16_25 P)) (m8_13 P))) (n (o2 P) (n (o4 P) (m8_8 P) (n (kf (o12 P) 156) (m16_20 P) (m16_28 P))) (n (o6 P) (m8_10 P) (n (o14 P) (m16_22 P) (n (o30 P) (m32_46 P) (n (o62 P) (m64_94 P) (n (o126 P) (m128_190 P) (n (o254 P) (n ((⟨(T "type"), none, .cls (cd "CoreEval" [(T "object")] [(r 382), (T "object")] 381 "CoreEval" true []), #[none, none, some (s "CoreEval" 856), some (s "CoreEval" 864), some (B "object.__new__"), some tt]⟩)) (m512_638 P) (m512_894 P)) (m256_510 P)))))))))
noncomputable def S19 (w : World) (os : OsState) : SharedT := ⟨T19 w.params, 597, {}, #[], {}, 1187, os⟩
noncomputable def T20 (P : Params) : BT := (n (o0 P) (n (o1 P) (n (kd (o3 P) 122 122 [(0, (s "framerune.sourcelib" 1153))]) (m8_7 P) (m8_11 P)) (n (o5 P) (n (o9 P) (n (o17 P) (m32_33 P) (n (o49 P) (n (o81 P) (n (o145 P) (n (o273 P) (n ((⟨(T "type"), none, .cls (cd "Plot" [(T "object")] [(r 529), (T "object")] 528 "Plot" true []), #[none, none, some (s "Plot" 985), some (s "Plot" 993), some (B "object.__new__"), some tt]⟩)) (m1024_1041 P) e) (m512_785 P)) (m256_401 P)) (m128_209 P)) (m64_113 P))) (m16_25 P)) (m8_13 P))) (n (o2 P) (n (o4 P) (m8_8 P) (n (kf (o12 P) 159) (m16_20 P) (m16_28 P))) (n (o6 P) (m8_10 P) (n (o14 P) (m16_22 P) (n (o30 P) (m32_46 P) (n (o62 P) (m64_94 P) (n (o126 P) (m128_190 P) (n (o254 P) (n ((⟨(T "type"), none, .cls (cd "CoreEval" [(T "object")] [(r 382), (T "object")] 381 "CoreEval" true [(r 620)]), #[none, none, some (s "CoreEval" 856), some (s "CoreEval" 864), some (B "object.__new__"), some tt]⟩)) (m512_638 P) (m512_894 P)) (m256_510 P)))))))))
noncomputable def S20 (w : World) (os : OsState) : SharedT := ⟨T20 w.params, 623, {}, #[], {}, 1223, os⟩
noncomputable def T21 (P : Params) : BT := (n (o0 P) (n (o1 P) (n (kd (o3 P) 123 123 [(0, (s "framerune.sourcelib" 1153))]) (m8_7 P) (m8_11 P)) (n (o5 P) (n (o9 P) (n (o17 P) (m32_33 P) (n (o49 P) (n (o81 P) (n (o145 P) (n (o273 P) (n ((⟨(T "type"), none, .cls (cd "Plot" [(T "object")] [(r 529), (T "object")] 528 "Plot" true []), #[none, none, some (s "Plot" 985), some (s "Plot" 993), some (B "object.__new__"), some tt]⟩)) (m1024_1041 P) e) (m512_785 P)) (m256_401 P)) (m128_209 P)) (m64_113 P))) (m16_25 P)) (m8_13 P))) (n (o2 P) (n (o4 P) (m8_8 P) (n (kf (o12 P) 162) (m16_20 P) (m16_28 P))) (n (o6 P) (m8_10 P) (n (o14 P) (m16_22 P) (n (o30 P) (m32_46 P) (n (o62 P) (m64_94 P) (n (o126 P) (m128_190 P) (n (o254 P) (n ((⟨(T "type"), none, .cls (cd "CoreEval" [(T "object")] [(r 382), (T "object")] 381 "CoreEval" true [(r 620), (r 646)]), #[none, none, some (s "CoreEval" 856), some (s "CoreEval" 864), some (B "object.__new__"), some tt]⟩)) (m512_638 P) (m512_894 P)) (m256_510 P)))))))))
noncomputable def S21 (w : World) (os : OsState) : SharedT := ⟨T21 w.params, 649, {}, #[], {}, 1260, os⟩
noncomputable def T22 (P : Params) : BT := (n (o0 P) (n (o1 P) (n (kd (o3 P) 124 124 [(0, (s "framerune.sourcelib" 1153))]) (m8_7 P) (m8_11 P)) (n (o5 P) (n (o9 P) (n (o17 P) (m32_33 P) (n (o49 P) (n (o81 P) (n (o145 P) (n (o273 P) (n ((⟨(T "type"), none, .cls (cd "Plot" [(T "object")] [(r 529), (T "object")] 528 "Plot" true []), #[none, none, some (s "Plot" 985), some (s "Plot" 993), some (B "object.__new__"), some tt]⟩)) (m1024_1041 P) e) (m512_785 P)) (m256_401 P)) (m128_209 P)) (m64_113 P))) (m16_25 P)) (m8_13 P))) (n (o2 P) (n (o4 P) (m8_8 P) (n (kf (o12 P) 165) (m16_20 P) (m16_28 P))) (n (o6 P) (m8_10 P) (n (o14 P) (m16_22 P) (n (o30 P) (m32_46 P) (n (o62 P) (m64_94 P) (n (o126 P) (m128_190 P) (n (o254 P) (n ((⟨(T "type"), none, .cls (cd "CoreEval" [(T "object")] [(r 382), (T "object")] 381 "CoreEval" true [(r 620), (r 646), (r 672)]), #[none, none, some (s "CoreEval" 856), some (s "CoreEval" 864), some (B "object.__new__"), some tt]⟩)) (m512_638 P) (m512_894 P)) (m256_510 P)))))))))
noncomputable def S22 (w : World) (os : OsState) : SharedT := ⟨T22 w.params, 675, {}, #[], {}, 1297, os⟩
noncomputable def T23 (P : Params) : BT := (n (o0 P) (n (o1 P) (n (kd (o3 P) 126 126 [(0, (s "framerune.kindrel" 1342))]) (m8_7 P) (m8_11 P)) (n (o5 P) (n (o9 P) (n (o17 P) (m32_33 P) (n (o49 P) (n (o81 P) (n (o145 P) (n (o273 P) (n ((⟨(T "type"), none, .cls (cd "Plot" [(T "object")] [(r 529), (T "object")] 528 "Plot" true []), #[none, none, some (s "Plot" 985), some (s "Plot" 993), some (B "object.__new__"), some tt]⟩)) (m1024_1041 P) e) (m512_785 P)) (m256_401 P)) (m128_209 P)) (m64_113 P))) (m16_25 P)) (m8_13 P))) (n (o2 P) (n (o4 P) (m8_8 P) (n (kf (o12 P) 171) (m16_20 P) (m16_28 P))) (m4_6 P)))
noncomputable def S23 (w : World) (os : OsState) : SharedT := ⟨T23 w.params, 708, {}, #[], {}, 1344, os⟩
noncomputable def T24 (P : Params) : BT := (n (o0 P) (n (o1 P) (n (kd (o3 P) 127 127 [(0, (s "framerune.kindrel" 1342))]) (m8_7 P) (m8_11 P)) (n (o5 P) (n (o9 P) (n (o17 P) (m32_33 P) (n (o49 P) (n (o81 P) (n (o145 P) (n (o273 P) (n ((⟨(T "type"), none, .cls (cd "Plot" [(T "object")] [(r 529), (T "object")] 528 "Plot" true []), #[none, none, some (s "Plot" 985), some (s "Plot" 993), some (B "object.__new__"), some tt]⟩)) (m1024_1041 P) e) (m512_785 P)) (m256_401 P)) (m128_209 P)) (m64_113 P))) (m16_25 P)) (m8_13 P))) (n (o2 P) (n (o4 P) (m8_8 P) (n (kf (o12 P) 174) (m16_20 P) (m16_28 P))) (m4_6 P)))
noncomputable def S24 (w : World) (os : OsState) : SharedT := ⟨T24 w.params, 771, {}, #[], {}, 1429, os⟩
noncomputable def T25 (P : Params) : BT := (n (o0 P) (n (o1 P) (n (kd (o3 P) 132 132 [(0, (s "framerune.heap" 1429))]) (m8_7 P) (m8_11 P)) (n (o5 P) (n (o9 P) (n (o17 P) (m32_33 P) (n (o49 P) (n (o81 P) (n (o145 P) (n (o273 P) (n ((⟨(T "type"), none, .cls (cd "Plot" [(T "object")] [(r 529), (T "object")] 528 "Plot" true []), #[none, none, some (s "Plot" 985), some (s "Plot" 993), some (B "object.__new__"), some tt]⟩)) (m1024_1041 P) e) (m512_785 P)) (m256_401 P)) (m128_209 P)) (m64_113 P))) (m16_25 P)) (m8_13 P))) (n (o2 P) (n (o4 P) (m8_8 P) (n (kf (o12 P) 180) (m16_20 P) (m16_28 P))) (m4_6 P)))
noncomputable def S25 (w : World) (os : OsState) : SharedT := ⟨T25 w.params, 799, {}, #[], {}, 1480, os⟩
noncomputable def T26 (P : Params) : BT := (n (o0 P) (n (o1 P) (n (kd (o3 P) 138 138 [(0, (s "framerune.places" 1563))]) (m8_7 P) (m8_11 P)) (n (o5 P) (n (o9 P) (n (o17 P) (m32_33 P) (n (o49 P) (n (o81 P) (n (o145 P) (n (o273 P) (n ((⟨(T "type"), none, .cls (cd "Plot" [(T "object")] [(r 529), (T "object")] 528 "Plot" true []), #[none, none, some (s "Plot" 985), some (s "Plot" 993), some (B "object.__new__"), some tt]⟩)) (m1024_1041 P) e) (m512_785 P)) (m256_401 P)) (m128_209 P)) (m64_113 P))) (m16_25 P)) (m8_13 P))) (n (o2 P) (n (o4 P) (m8_8 P) (n (kf (o12 P) 195) (m16_20 P) (m16_28 P))) (m4_6 P)))
noncomputable def S26 (w : World) (os : OsState) : SharedT := ⟨T26 w.params, 848, {}, #[], {}, 1568, os⟩
noncomputable def T27 (P : Params) : BT := (n (o0 P) (n (o1 P) (n (kd (o3 P) 144 144 [(0, (s "framerune.mbase" 1643))]) (m8_7 P) (m8_11 P)) (n (o5 P) (n (o9 P) (n (o17 P) (m32_33 P) (n (o49 P) (n (o81 P) (n (o145 P) (n (o273 P) (n ((⟨(T "type"), none, .cls (cd "Plot" [(T "object")] [(r 529), (T "object")] 528 "Plot" true []), #[none, none, some (s "Plot" 985), some (s "Plot" 993), some (B "object.__new__"), some tt]⟩)) (m1024_1041 P) e) (m512_785 P)) (m256_401 P)) (m128_209 P)) (m64_113 P))) (m16_25 P)) (m8_13 P))) (n (o2 P) (n (o4 P) (m8_8 P) (n (kf (o12 P) 213) (m16_20 P) (m16_28 P))) (m4_6 P)))
noncomputable def S27 (w : World) (os : OsState) : SharedT := ⟨T27 w.params, 904, {}, #[], {}, 1645, os⟩
noncomputable def T28 (P : Params) : BT := (n (o0 P) (n (o1 P) (n (kd (o3 P) 152 152 [(0, (s "framerune.mbase" 1643))]) (m8_7 P) (m8_11 P)) (n (o5 P) (n (o9 P) (n (o17 P) (m32_33 P) (n (o49 P) (n (o81 P) (n (o145 P) (n (o273 P) (n ((⟨(T "type"), none, .cls (cd "Plot" [(T "object")] [(r 529), (T "object")] 528 "Plot" true []), #[none, none, some (s "Plot" 985), some (s "Plot" 993), some (B "object.__new__"), some tt]⟩)) (m1024_1041 P) e) (m512_785 P)) (m256_401 P)) (m128_209 P)) (m64_113 P))) (n (o25 P) (m32_41 P) (n (o57 P) (n (o89 P) (n (o153 P) (m256_281 P) (n (o409 P) (m512_665 P) (n ((⟨(T "type"), none, .cls (cd "Native" [(T "object")] [(r 921), (T "object")] 920 "Native" true []), #[none, none, some (s "Native" 1663), some (s "Native" 1671), some (B "object.__new__"), some tt]⟩)) (m1024_1433 P) e))) (m128_217 P)) (m64_121 P)))) (m8_13 P))) (n (o2 P) (n (o4 P) (m8_8 P) (n (kf (o12 P) 216) (m16_20 P) (m16_28 P))) (m4_6 P)))
noncomputable def S28 (w : World) (os : OsState) : SharedT := ⟨T28 w.params, 926, {}, #[], {}, 1693, os⟩
noncomputable def T29 (P : Params) : BT := (n (o0 P) (n (o1 P) (n (kd (o3 P) 153 153 [(0, (s "framerune.mbase" 1643))]) (m8_7 P) (m8_11 P)) (n (o5 P) (n (o9 P) (n (o17 P) (m32_33 P) (n (o49 P) (n (o81 P) (n (o145 P) (n (o273 P) (n ((⟨(T "type"), none, .cls (cd "Plot" [(T "object")] [(r 529), (T "object")] 528 "Plot" true []), #[none, none, some (s "Plot" 985), some (s "Plot" 993), some (B "object.__new__"), some tt]⟩)) (m1024_1041 P) e) (m512_785 P)) (m256_401 P)) (m128_209 P)) (m64_113 P))) (n (o25 P) (m32_41 P) (n (o57 P) (n (o89 P) (n (o153 P) (m256_281 P) (n (o409 P) (m512_665 P) (n ((⟨(T "type"), none, .cls (cd "Native" [(T "object")] [(r 921), (T "object")] 920 "Native" true []), #[none, none, some (s "Native" 1663), some (s "Native" 1671), some (B "object.__new__"), some tt]⟩)) (m1024_1433 P) e))) (m128_217 P)) (m64_121 P)))) (m8_13 P))) (n (o2 P) (n (o4 P) (m8_8 P) (n (kf (o12 P) 219) (m16_20 P) (m16_28 P))) (m4_6 P)))
noncomputable def S29 (w : World) (os : OsState) : SharedT := ⟨T29 w.params, 961, {}, #[], {}, 1742, os⟩
noncomputable def T30 (P : Params) : BT := (n (o0 P) (n (o1 P) (n (kd (o3 P) 154 154 [(0, (s "framerune.mbase" 1643))]) (m8_7 P) (m8_11 P)) (n (o5 P) (n (o9 P) (n (o17 P) (m32_33 P) (n (o49 P) (n (o81 P) (n (o145 P) (n (o273 P) (n ((⟨(T "type"), none, .cls (cd "Plot" [(T "object")] [(r 529), (T "object")] 528 "Plot" true []), #[none, none, some (s "Plot" 985), some (s "Plot" 993), some (B "object.__new__"), some tt]⟩)) (m1024_1041 P) e) (m512_785 P)) (m256_401 P)) (m128_209 P)) (m64_113 P))) (n (o25 P) (m32_41 P) (n (o57 P) (n (o89 P) (n (o153 P) (m256_281 P) (n (o409 P) (m512_665 P) (n ((⟨(T "type"), none, .cls (cd "Native" [(T "object")] [(r 921), (T "object")] 920 "Native" true []), #[none, none, some (s "Native" 1663), some (s "Native" 1671), some (B "object.__new__"), some tt]⟩)) (m1024_1433 P) e))) (m128_217 P)) (m64_121 P)))) (m8_13 P))) (n (o2 P) (n (o4 P) (m8_8 P) (n (kf (o12 P) 222) (m16_20 P) (m16_28 P))) (m4_6 P)))
noncomputable def S30 (w : World) (os : OsState) : SharedT := ⟨T30 w.params, 989, {}, #[], {}, 1782, os⟩
noncomputable def T31 (P : Params) : BT := (n (o0 P) (n (o1 P) (n (kd (o3 P) 155 155 [(0, (s "framerune.mbase" 1643))]) (m8_7 P) (m8_11 P)) (n (o5 P) (n (o9 P) (n (o17 P) (m32_33 P) (n (o49 P) (n (o81 P) (n (o145 P) (n (o273 P) (n ((⟨(T "type"), none, .cls (cd "Plot" [(T "object")] [(r 529), (T "object")] 528 "Plot" true []), #[none, none, some (s "Plot" 985), some (s "Plot" 993), some (B "object.__new__"), some tt]⟩)) (m1024_1041 P) e) (m512_785 P)) (m256_401 P)) (m128_209 P)) (m64_113 P))) (n (o25 P) (m32_41 P) (n (o57 P) (n (o89 P) (n (o153 P) (m256_281 P) (n (o409 P) (m512_665 P) (n ((⟨(T "type"), none, .cls (cd "Native" [(T "object")] [(r 921), (T "object")] 920 "Native" true []), #[none, none, some (s "Native" 1663), some (s "Native" 1671), some (B "object.__new__"), some tt]⟩)) (m1024_1433 P) e))) (m128_217 P)) (m64_121 P)))) (m8_13 P))) (n (o2 P) (n (o4 P) (m8_8 P) (n (kf (o12 P) 225) (m16_20 P) (m16_28 P))) (m4_6 P)))
noncomputable def S31 (w : World) (os : OsState) : SharedT := ⟨T31 w.params, 1115, {}, #[], {}, 1960, os⟩
noncomputable def T32 (P : Params) : BT := (n (o0 P) (n (o1 P) (n (kd (o3 P) 165 165 [(0, (s "framerune.natives" 1987))]) (m8_7 P) (m8_11 P)) (n (o5 P) (n (o9 P) (n (o17 P) (m32_33 P) (n (o49 P) (n (o81 P) (n (o145 P) (n (o273 P) (n ((⟨(T "type"), none, .cls (cd "Plot" [(T "object")] [(r 529), (T "object")] 528 "Plot" true []), #[none, none, some (s "Plot" 985), some (s "Plot" 993), some (B "object.__new__"), some tt]⟩)) (m1024_1041 P) e) (m512_785 P)) (m256_401 P)) (m128_209 P)) (m64_113 P))) (n (o25 P) (m32_41 P) (n (o57 P) (n (o89 P) (n (o153 P) (m256_281 P) (n (o409 P) (m512_665 P) (n ((⟨(T "type"), none, .cls (cd "Native" [(T "object")] [(r 921), (T "object")] 920 "Native" true []), #[none, none, some (s "Native" 1663), some (s "Native" 1671), some (B "object.__new__"), some tt]⟩)) (m1024_1433 P) e))) (m128_217 P)) (m64_121 P)))) (m8_13 P))) (n (o2 P) (n (o4 P) (m8_8 P) (n (kf (o12 P) 255) (m16_20 P) (m16_28 P))) (m4_6 P)))
noncomputable def S32 (w : World) (os : OsState) : SharedT := ⟨T32 w.params, 1185, {}, #[], {}, 2045, os⟩
noncomputable def T33 (P : Params) : BT := (n (o0 P) (n (o1 P) (n (kd (o3 P) 166 166 [(0, (s "framerune.natives" 1987))]) (m8_7 P) (m8_11 P)) (n (o5 P) (n (o9 P) (n (o17 P) (m32_33 P) (n (o49 P) (n (o81 P) (n (o145 P) (n (o273 P) (n ((⟨(T "type"), none, .cls (cd "Plot" [(T "object")] [(r 529), (T "object")] 528 "Plot" true []), #[none, none, some (s "Plot" 985), some (s "Plot" 993), some (B "object.__new__"), some tt]⟩)) (m1024_1041 P) e) (m512_785 P)) (m256_401 P)) (m128_209 P)) (m64_113 P))) (n (o25 P) (m32_41 P) (n (o57 P) (n (o89 P) (n (o153 P) (m256_281 P) (n (o409 P) (m512_665 P) (n ((⟨(T "type"), none, .cls (cd "Native" [(T "object")] [(r 921), (T "object")] 920 "Native" true [(r 1208)]), #[none, none, some (s "Native" 1663), some (s "Native" 1671), some (B "object.__new__"), some tt]⟩)) (m1024_1433 P) e))) (m128_217 P)) (m64_121 P)))) (m8_13 P))) (n (o2 P) (n (o4 P) (m8_8 P) (n (kf (o12 P) 258) (m16_20 P) (m16_28 P))) (m4_6 P)))
noncomputable def S33 (w : World) (os : OsState) : SharedT := ⟨T33 w.params, 1211, {}, #[], {}, 2082, os⟩
noncomputable def T34 (P : Params) : BT := (n (o0 P) (n (o1 P) (n (kd (o3 P) 173 173 [(0, (s "framerune.sourcebed" 2137))]) (m8_7 P) (m8_11 P)) (n (o5 P) (n (o9 P) (n (o17 P) (m32_33 P) (n (o49 P) (n (o81 P) (n (o145 P) (n (o273 P) (n ((⟨(T "type"), none, .cls (cd "Plot" [(T "object")] [(r 529), (T "object")] 528 "Plot" true []), #[none, none, some (s "Plot" 985), some (s "Plot" 993), some (B "object.__new__"), some tt]⟩)) (m1024_1041 P) e) (m512_785 P)) (m256_401 P)) (m128_209 P)) (m64_113 P))) (m16_25 P)) (m8_13 P))) (n (o2 P) (n (o4 P) (m8_8 P) (n (kf (o12 P) 264) (m16_20 P) (m16_28 P))) (m4_6 P)))
noncomputable def S34 (w : World) (os : OsState) : SharedT := ⟨T34 w.params, 1244, {}, #[], {}, 2139, os⟩
noncomputable def T35 (P : Params) : BT := (n (o0 P) (n (o1 P) (n (kd (o3 P) 174 174 [(0, (s "framerune.sourcebed" 2137))]) (m8_7 P) (m8_11 P)) (m4_5 P)) (n (o2 P) (n (o4 P) (m8_8 P) (n (kf (o12 P) 267) (m16_20 P) (m16_28 P))) (m4_6 P)))
noncomputable def S35 (w : World) (os : OsState) : SharedT := ⟨T35 w.params, 1319, {}, #[], {}, 2266, os⟩
noncomputable def T36 (P : Params) : BT := (n (o0 P) (n (o1 P) (n (kd (o3 P) 186 186 []) (m8_7 P) (m8_11 P)) (m4_5 P)) (n (o2 P) (n (o4 P) (m8_8 P) (n (kf (o12 P) 303) (m16_20 P) (m16_28 P))) (m4_6 P)))
noncomputable def S36 (w : World) (os : OsState) : SharedT := ⟨T36 w.params, 1401, {}, #[], {}, 2370, os⟩
noncomputable def T37 (P : Params) : BT := (n (o0 P) (n (o1 P) (n (kd (o3 P) 197 197 []) (m8_7 P) (m8_11 P)) (m4_5 P)) (n (o2 P) (n (o4 P) (m8_8 P) (n (kf (o12 P) 336) (m16_20 P) (m16_28 P))) (m4_6 P)))
noncomputable def S37 (w : World) (os : OsState) : SharedT := ⟨T37 w.params, 1478, {}, #[], {}, 2516, os⟩
noncomputable def T38 (P : Params) : BT := (m1_0 P)
noncomputable def S38 (w : World) (os : OsState) : SharedT := ⟨T38 w.params, 1490, {}, #[], {}, 2536, os⟩
noncomputable def T39 (P : Params) : BT := (m1_0 P)
noncomputable def S39 (w : World) (os : OsState) : SharedT := ⟨T39 w.params, 1490, {}, #[], {}, 2536, os⟩
noncomputable def H0 (P : Params) : Heap := ⟨List.toArray [o0 P, o1 P, (kd (o2 P) 0 0 []), (kd (o3 P) 9 9 [(0, (s "__main__" 164))]), o4 P, o5 P, o6 P, o7 P, o8 P, o9 P, o10 P, o11 P, (kf (o12 P) 0), o13 P, o14 P], {}⟩
noncomputable def bE : List Stmt := behindTheImports pw
noncomputable def env : Env := { scope := pw.main.scope, locals := mainNs, globals := mainNs, cells := [], code := r 13, frame := some 14 }
noncomputable def cE : Code := .body bE env
noncomputable abbrev q0 : Pos := ⟨0, 0, 0, 0⟩
noncomputable abbrev BB : List Frame := [topFrame q0]
noncomputable abbrev rowG : String := "special-get-raises"
noncomputable abbrev fastRun (w : World) (n : Nat) (S : SharedT) (l : List Stmt) (p : Pos) := PySem.W.Fast.tw10110043849684766642 PySem.W.Fast.tw14364793385576792824 pw w 11 (some (r 6)) 1 n S ⟨(PySem.W.Fast.tw12563942051412417395 l env).wrap doneF deadEnd id id, cE, p, BB⟩
theorem ofFast {w : World} {n : Nat} {S : SharedT} {l : List Stmt} {p : Pos} {x : Option (Flow × SharedT × Code × Pos)} (h : fastRun w n S l p = x) : segRunT treeTable pw w 11 (some (r 6)) 1 n S (piecesOf l env cE p BB) = x := by
  rw [PySem.W.Fast.te10110043849684766642, PySem.W.Fast.te14364793385576792824]
  show _ = x
  unfold piecesOf
  rw [PySem.W.Fast.te12563942051412417395]
  exact h

noncomputable def L2 : List Stmt := (bE.drop 0).take 8
theorem p2 (w : World) (os : OsState) : fastRun w 314 (S1 w os) L2 ⟨0, 0, 0, 0⟩ = some (.next, S2 w os, cE, ⟨10, 0, 14, 20⟩) := by kernel_rfl
noncomputable def L3 : List Stmt := (bE.drop 8).take 1
theorem p3 (w : World) (os : OsState) : fastRun w 214 (S2 w os) L3 ⟨10, 0, 14, 20⟩ = some (.next, S3 w os, cE, ⟨15, 0, 16, 8⟩) := by kernel_rfl
noncomputable def L4 : List Stmt := (bE.drop 9).take 1
theorem p4 (w : World) (os : OsState) : fastRun w 214 (S3 w os) L4 ⟨15, 0, 16, 8⟩ = some (.next, S4 w os, cE, ⟨17, 0, 18, 8⟩) := by kernel_rfl
noncomputable def L5 : List Stmt := (bE.drop 10).take 21
theorem p5 (w : World) (os : OsState) : fastRun w 394 (S4 w os) L5 ⟨17, 0, 18, 8⟩ = some (.next, S5 w os, cE, ⟨40, 0, 40, 7⟩) := by kernel_rfl
noncomputable def L6 : List Stmt := (bE.drop 31).take 11
theorem p6 (w : World) (os : OsState) : fastRun w 297 (S5 w os) L6 ⟨40, 0, 40, 7⟩ = some (.next, S6 w os, cE, ⟨51, 0, 51, 8⟩) :=
  byRow2 rowG (P := fun w => ∀ os, fastRun w 297 (S5 w os) L6 ⟨40, 0, 40, 7⟩ = some (.next, S6 w os, cE, ⟨51, 0, 51, 8⟩)) (fun w os => by kernel_rfl) (fun w os => by kernel_rfl) w os
noncomputable def L7 : List Stmt := (bE.drop 42).take 3
theorem p7 (w : World) (os : OsState) : fastRun w 225 (S6 w os) L7 ⟨51, 0, 51, 8⟩ = some (.next, S7 w os, cE, ⟨54, 0, 54, 12⟩) :=
  byRow2 rowG (P := fun w => ∀ os, fastRun w 225 (S6 w os) L7 ⟨51, 0, 51, 8⟩ = some (.next, S7 w os, cE, ⟨54, 0, 54, 12⟩)) (fun w os => by kernel_rfl) (fun w os => by kernel_rfl) w os
noncomputable def L8 : List Stmt := (bE.drop 45).take 1
theorem p8 (w : World) (os : OsState) : fastRun w 223 (S7 w os) L8 ⟨54, 0, 54, 12⟩ = some (.next, S8 w os, cE, ⟨55, 0, 55, 10⟩) :=
  byRow2 rowG (P := fun w => ∀ os, fastRun w 223 (S7 w os) L8 ⟨54, 0, 54, 12⟩ = some (.next, S8 w os, cE, ⟨55, 0, 55, 10⟩)) (fun w os => by kernel_rfl) (fun w os => by kernel_rfl) w os
noncomputable def L9 : List Stmt := (bE.drop 46).take 4
theorem p9 (w : World) (os : OsState) : fastRun w 387 (S8 w os) L9 ⟨55, 0, 55, 10⟩ = some (.next, S9 w os, cE, ⟨118, 0, 123, 12⟩) := by kernel_rfl
noncomputable def L10 : List Stmt := (bE.drop 50).take 12
theorem p10 (w : World) (os : OsState) : fastRun w 378 (S9 w os) L10 ⟨118, 0, 123, 12⟩ = some (.next, S10 w os, cE, ⟨202, 0, 210, 35⟩) := by kernel_rfl
noncomputable def L11 : List Stmt := (bE.drop 62).take 29
theorem p11 (w : World) (os : OsState) : fastRun w 396 (S10 w os) L11 ⟨202, 0, 210, 35⟩ = some (.next, S11 w os, cE, ⟨258, 0, 258, 9⟩) := by kernel_rfl
noncomputable def L12 : List Stmt := (bE.drop 91).take 11
theorem p12 (w : World) (os : OsState) : fastRun w 313 (S11 w os) L12 ⟨258, 0, 258, 9⟩ = some (.next, S12 w os, cE, ⟨334, 0, 334, 8⟩) := by kernel_rfl
noncomputable def L13 : List Stmt := (bE.drop 102).take 1
theorem p13 (w : World) (os : OsState) : fastRun w 231 (S12 w os) L13 ⟨334, 0, 334, 8⟩ = some (.next, S13 w os, cE, ⟨335, 0, 344, 27⟩) := by kernel_rfl
noncomputable def L14 : List Stmt := (bE.drop 103).take 1
theorem p14 (w : World) (os : OsState) : fastRun w 225 (S13 w os) L14 ⟨335, 0, 344, 27⟩ = some (.next, S14 w os, cE, ⟨345, 0, 348, 38⟩) := by kernel_rfl
noncomputable def L15 : List Stmt := (bE.drop 104).take 1
theorem p15 (w : World) (os : OsState) : fastRun w 223 (S14 w os) L15 ⟨345, 0, 348, 38⟩ = some (.next, S15 w os, cE, ⟨349, 0, 352, 19⟩) := by kernel_rfl
noncomputable def L16 : List Stmt := (bE.drop 105).take 1
theorem p16 (w : World) (os : OsState) : fastRun w 224 (S15 w os) L16 ⟨349, 0, 352, 19⟩ = some (.next, S16 w os, cE, ⟨353, 0, 356, 19⟩) := by kernel_rfl
noncomputable def L17 : List Stmt := (bE.drop 106).take 1
theorem p17 (w : World) (os : OsState) : fastRun w 257 (S16 w os) L17 ⟨353, 0, 356, 19⟩ = some (.next, S17 w os, cE, ⟨357, 0, 363, 16⟩) := by kernel_rfl
noncomputable def L18 : List Stmt := (bE.drop 107).take 1
theorem p18 (w : World) (os : OsState) : fastRun w 508 (S17 w os) L18 ⟨357, 0, 363, 16⟩ = some (.next, S18 w os, cE, ⟨364, 0, 414, 20⟩) := by kernel_rfl
noncomputable def L19 : List Stmt := (bE.drop 108).take 11
theorem p19 (w : World) (os : OsState) : fastRun w 293 (S18 w os) L19 ⟨364, 0, 414, 20⟩ = some (.next, S19 w os, cE, ⟨446, 0, 447, 41⟩) := by kernel_rfl
noncomputable def L20 : List Stmt := (bE.drop 119).take 1
theorem p20 (w : World) (os : OsState) : fastRun w 281 (S19 w os) L20 ⟨446, 0, 447, 41⟩ = some (.next, S20 w os, cE, ⟨448, 0, 454, 79⟩) := by kernel_rfl
noncomputable def L21 : List Stmt := (bE.drop 120).take 1
theorem p21 (w : World) (os : OsState) : fastRun w 282 (S20 w os) L21 ⟨448, 0, 454, 79⟩ = some (.next, S21 w os, cE, ⟨455, 0, 464, 93⟩) := by kernel_rfl
noncomputable def L22 : List Stmt := (bE.drop 121).take 1
theorem p22 (w : World) (os : OsState) : fastRun w 282 (S21 w os) L22 ⟨455, 0, 464, 93⟩ = some (.next, S22 w os, cE, ⟨465, 0, 478, 24⟩) := by kernel_rfl
noncomputable def L23 : List Stmt := (bE.drop 122).take 3
theorem p23 (w : World) (os : OsState) : fastRun w 321 (S22 w os) L23 ⟨465, 0, 478, 24⟩ = some (.next, S23 w os, cE, ⟨494, 0, 494, 8⟩) := by kernel_rfl
noncomputable def L24 : List Stmt := (bE.drop 125).take 1
theorem p24 (w : World) (os : OsState) : fastRun w 423 (S23 w os) L24 ⟨494, 0, 494, 8⟩ = some (.next, S24 w os, cE, ⟨495, 0, 524, 16⟩) := by kernel_rfl
noncomputable def L25 : List Stmt := (bE.drop 126).take 6
theorem p25 (w : World) (os : OsState) : fastRun w 295 (S24 w os) L25 ⟨495, 0, 524, 16⟩ = some (.next, S25 w os, cE, ⟨533, 0, 541, 23⟩) := by kernel_rfl
noncomputable def L26 : List Stmt := (bE.drop 132).take 7
theorem p26 (w : World) (os : OsState) : fastRun w 388 (S25 w os) L26 ⟨533, 0, 541, 23⟩ = some (.next, S26 w os, cE, ⟨598, 0, 598, 10⟩) := by kernel_rfl
noncomputable def L27 : List Stmt := (bE.drop 139).take 7
theorem p27 (w : World) (os : OsState) : fastRun w 388 (S26 w os) L27 ⟨598, 0, 598, 10⟩ = some (.next, S27 w os, cE, ⟨639, 0, 639, 8⟩) := by kernel_rfl
noncomputable def L28 : List Stmt := (bE.drop 146).take 8
theorem p28 (w : World) (os : OsState) : fastRun w 305 (S27 w os) L28 ⟨639, 0, 639, 8⟩ = some (.next, S28 w os, cE, ⟨647, 0, 650, 22⟩) := by kernel_rfl
noncomputable def L29 : List Stmt := (bE.drop 154).take 1
theorem p29 (w : World) (os : OsState) : fastRun w 291 (S28 w os) L29 ⟨647, 0, 650, 22⟩ = some (.next, S29 w os, cE, ⟨651, 0, 660, 17⟩) := by kernel_rfl
noncomputable def L30 : List Stmt := (bE.drop 155).take 1
theorem p30 (w : World) (os : OsState) : fastRun w 258 (S29 w os) L30 ⟨651, 0, 660, 17⟩ = some (.next, S30 w os, cE, ⟨661, 0, 667, 19⟩) := by kernel_rfl
noncomputable def L31 : List Stmt := (bE.drop 156).take 1
theorem p31 (w : World) (os : OsState) : fastRun w 732 (S30 w os) L31 ⟨661, 0, 667, 19⟩ = some (.next, S31 w os, cE, ⟨668, 0, 736, 17⟩) := by kernel_rfl
noncomputable def L32 : List Stmt := (bE.drop 157).take 11
theorem p32 (w : World) (os : OsState) : fastRun w 313 (S31 w os) L32 ⟨668, 0, 736, 17⟩ = some (.next, S32 w os, cE, ⟨789, 0, 800, 40⟩) := by kernel_rfl
noncomputable def L33 : List Stmt := (bE.drop 168).take 1
theorem p33 (w : World) (os : OsState) : fastRun w 282 (S32 w os) L33 ⟨789, 0, 800, 40⟩ = some (.next, S33 w os, cE, ⟨801, 0, 813, 49⟩) := by kernel_rfl
noncomputable def L34 : List Stmt := (bE.drop 169).take 9
theorem p34 (w : World) (os : OsState) : fastRun w 373 (S33 w os) L34 ⟨801, 0, 813, 49⟩ = some (.next, S34 w os, cE, ⟨832, 0, 832, 8⟩) := by kernel_rfl
noncomputable def L35 : List Stmt := (bE.drop 178).take 1
theorem p35 (w : World) (os : OsState) : fastRun w 540 (S34 w os) L35 ⟨832, 0, 832, 8⟩ = some (.next, S35 w os, cE, ⟨833, 0, 893, 35⟩) := by kernel_rfl
noncomputable def L36 : List Stmt := (bE.drop 179).take 13
theorem p36 (w : World) (os : OsState) : fastRun w 374 (S35 w os) L36 ⟨833, 0, 893, 35⟩ = some (.next, S36 w os, cE, ⟨955, 0, 960, 44⟩) := by kernel_rfl
noncomputable def L37 : List Stmt := (bE.drop 192).take 11
theorem p37 (w : World) (os : OsState) : fastRun w 389 (S36 w os) L37 ⟨955, 0, 960, 44⟩ = some (.next, S37 w os, cE, ⟨1069, 0, 1082, 93⟩) := by kernel_rfl
noncomputable def L38 : List Stmt := (bE.drop 203).take 2
theorem p38 (w : World) (os : OsState) : fastRun w 63 (S37 w os) L38 ⟨1069, 0, 1082, 93⟩ = some (.next, S38 w os, cE, ⟨1097, 0, 1115, 66⟩) := by kernel_rfl
end Hd
set_option maxHeartbeats 0
namespace Hd
theorem cfin (w : World) (os : OsState) : topRun treeTable pw w 11 (some (r 6)) 2 (S38 w os).abs ⟨doneF .next, cE, ⟨1097, 0, 1115, 66⟩, BB⟩ = some (S39 w os).abs := by kernel_rfl
theorem c38 (w : World) (os : OsState) : topRun treeTable pw w 11 (some (r 6)) 2 (S38 w os).abs (restOf [] env cE ⟨1097, 0, 1115, 66⟩ BB) = some (S39 w os).abs := piece_nil (cfin w os)
noncomputable def D38 : List Stmt := []
noncomputable def D37 : List Stmt := L38 ++ D38
theorem c37 (w : World) (os : OsState) : topRun treeTable pw w 11 (some (r 6)) 65 (S37 w os).abs (restOf D37 env cE ⟨1069, 0, 1082, 93⟩ BB) = some (S39 w os).abs := piece_app (n := 63) (N := 2) (l := L38) (rest := D38) (segRun_of (ofFast (p38 w os))) (c38 w os)
noncomputable def D36 : List Stmt := L37 ++ D37
theorem c36 (w : World) (os : OsState) : topRun treeTable pw w 11 (some (r 6)) 454 (S36 w os).abs (restOf D36 env cE ⟨955, 0, 960, 44⟩ BB) = some (S39 w os).abs := piece_app (n := 389) (N := 65) (l := L37) (rest := D37) (segRun_of (ofFast (p37 w os))) (c37 w os)
noncomputable def D35 : List Stmt := L36 ++ D36
theorem c35 (w : World) (os : OsState) : topRun treeTable pw w 11 (some (r 6)) 828 (S35 w os).abs (restOf D35 env cE ⟨833, 0, 893, 35⟩ BB) = some (S39 w os).abs := piece_app (n := 374) (N := 454) (l := L36) (rest := D36) (segRun_of (ofFast (p36 w os))) (c36 w os)
noncomputable def D34 : List Stmt := L35 ++ D35
theorem c34 (w : World) (os : OsState) : topRun treeTable pw w 11 (some (r 6)) 1368 (S34 w os).abs (restOf D34 env cE ⟨832, 0, 832, 8⟩ BB) = some (S39 w os).abs := piece_app (n := 540) (N := 828) (l := L35) (rest := D35) (segRun_of (ofFast (p35 w os))) (c35 w os)
noncomputable def D33 : List Stmt := L34 ++ D34
theorem c33 (w : World) (os : OsState) : topRun treeTable pw w 11 (some (r 6)) 1741 (S33 w os).abs (restOf D33 env cE ⟨801, 0, 813, 49⟩ BB) = some (S39 w os).abs := piece_app (n := 373) (N := 1368) (l := L34) (rest := D34) (segRun_of (ofFast (p34 w os))) (c34 w os)
noncomputable def D32 : List Stmt := L33 ++ D33
theorem c32 (w : World) (os : OsState) : topRun treeTable pw w 11 (some (r 6)) 2023 (S32 w os).abs (restOf D32 env cE ⟨789, 0, 800, 40⟩ BB) = some (S39 w os).abs := piece_app (n := 282) (N := 1741) (l := L33) (rest := D33) (segRun_of (ofFast (p33 w os))) (c33 w os)
noncomputable def D31 : List Stmt := L32 ++ D32
theorem c31 (w : World) (os : OsState) : topRun treeTable pw w 11 (some (r 6)) 2336 (S31 w os).abs (restOf D31 env cE ⟨668, 0, 736, 17⟩ BB) = some (S39 w os).abs := piece_app (n := 313) (N := 2023) (l := L32) (rest := D32) (segRun_of (ofFast (p32 w os))) (c32 w os)
noncomputable def D30 : List Stmt := L31 ++ D31
theorem c30 (w : World) (os : OsState) : topRun treeTable pw w 11 (some (r 6)) 3068 (S30 w os).abs (restOf D30 env cE ⟨661, 0, 667, 19⟩ BB) = some (S39 w os).abs := piece_app (n := 732) (N := 2336) (l := L31) (rest := D31) (segRun_of (ofFast (p31 w os))) (c31 w os)
noncomputable def D29 : List Stmt := L30 ++ D30
theorem c29 (w : World) (os : OsState) : topRun treeTable pw w 11 (some (r 6)) 3326 (S29 w os).abs (restOf D29 env cE ⟨651, 0, 660, 17⟩ BB) = some (S39 w os).abs := piece_app (n := 258) (N := 3068) (l := L30) (rest := D30) (segRun_of (ofFast (p30 w os))) (c30 w os)
noncomputable def D28 : List Stmt := L29 ++ D29
theorem c28 (w : World) (os : OsState) : topRun treeTable pw w 11 (some (r 6)) 3617 (S28 w os).abs (restOf D28 env cE ⟨647, 0, 650, 22⟩ BB) = some (S39 w os).abs := piece_app (n := 291) (N := 3326) (l := L29) (rest := D29) (segRun_of (ofFast (p29 w os))) (c29 w os)
noncomputable def D27 : List Stmt := L28 ++ D28
theorem c27 (w : World) (os : OsState) : topRun treeTable pw w 11 (some (r 6)) 3922 (S27 w os).abs (restOf D27 env cE ⟨639, 0, 639, 8⟩ BB) = some (S39 w os).abs := piece_app (n := 305) (N := 3617) (l := L28) (rest := D28) (segRun_of (ofFast (p28 w os))) (c28 w os)
noncomputable def D26 : List Stmt := L27 ++ D27
theorem c26 (w : World) (os : OsState) : topRun treeTable pw w 11 (some (r 6)) 4310 (S26 w os).abs (restOf D26 env cE ⟨598, 0, 598, 10⟩ BB) = some (S39 w os).abs := piece_app (n := 388) (N := 3922) (l := L27) (rest := D27) (segRun_of (ofFast (p27 w os))) (c27 w os)
noncomputable def D25 : List Stmt := L26 ++ D26
theorem c25 (w : World) (os : OsState) : topRun treeTable pw w 11 (some (r 6)) 4698 (S25 w os).abs (restOf D25 env cE ⟨533, 0, 541, 23⟩ BB) = some (S39 w os).abs := piece_app (n := 388) (N := 4310) (l := L26) (rest := D26) (segRun_of (ofFast (p26 w os))) (c26 w os)
noncomputable def D24 : List Stmt := L25 ++ D25
theorem c24 (w : World) (os : OsState) : topRun treeTable pw w 11 (some (r 6)) 4993 (S24 w os).abs (restOf D24 env cE ⟨495, 0, 524, 16⟩ BB) = some (S39 w os).abs := piece_app (n := 295) (N := 4698) (l := L25) (rest := D25) (segRun_of (ofFast (p25 w os))) (c25 w os)
noncomputable def D23 : List Stmt := L24 ++ D24
theorem c23 (w : World) (os : OsState) : topRun treeTable pw w 11 (some (r 6)) 5416 (S23 w os).abs (restOf D23 env cE ⟨494, 0, 494, 8⟩ BB) = some (S39 w os).abs := piece_app (n := 423) (N := 4993) (l := L24) (rest := D24) (segRun_of (ofFast (p24 w os))) (c24 w os)
noncomputable def D22 : List Stmt := L23 ++ D23
theorem c22 (w : World) (os : OsState) : topRun treeTable pw w 11 (some (r 6)) 5737 (S22 w os).abs (restOf D22 env cE ⟨465, 0, 478, 24⟩ BB) = some (S39 w os).abs := piece_app (n := 321) (N := 5416) (l := L23) (rest := D23) (segRun_of (ofFast (p23 w os))) (c23 w os)
noncomputable def D21 : List Stmt := L22 ++ D22
theorem c21 (w : World) (os : OsState) : topRun treeTable pw w 11 (some (r 6)) 6019 (S21 w os).abs (restOf D21 env cE ⟨455, 0, 464, 93⟩ BB) = some (S39 w os).abs := piece_app (n := 282) (N := 5737) (l := L22) (rest := D22) (segRun_of (ofFast (p22 w os))) (c22 w os)
noncomputable def D20 : List Stmt := L21 ++ D21
theorem c20 (w : World) (os : OsState) : topRun treeTable pw w 11 (some (r 6)) 6301 (S20 w os).abs (restOf D20 env cE ⟨448, 0, 454, 79⟩ BB) = some (S39 w os).abs := piece_app (n := 282) (N := 6019) (l := L21) (rest := D21) (segRun_of (ofFast (p21 w os))) (c21 w os)
noncomputable def D19 : List Stmt := L20 ++ D20
theorem c19 (w : World) (os : OsState) : topRun treeTable pw w 11 (some (r 6)) 6582 (S19 w os).abs (restOf D19 env cE ⟨446, 0, 447, 41⟩ BB) = some (S39 w os).abs := piece_app (n := 281) (N := 6301) (l := L20) (rest := D20) (segRun_of (ofFast (p20 w os))) (c20 w os)
noncomputable def D18 : List Stmt := L19 ++ D19
theorem c18 (w : World) (os : OsState) : topRun treeTable pw w 11 (some (r 6)) 6875 (S18 w os).abs (restOf D18 env cE ⟨364, 0, 414, 20⟩ BB) = some (S39 w os).abs := piece_app (n := 293) (N := 6582) (l := L19) (rest := D19) (segRun_of (ofFast (p19 w os))) (c19 w os)
noncomputable def D17 : List Stmt := L18 ++ D18
theorem c17 (w : World) (os : OsState) : topRun treeTable pw w 11 (some (r 6)) 7383 (S17 w os).abs (restOf D17 env cE ⟨357, 0, 363, 16⟩ BB) = some (S39 w os).abs := piece_app (n := 508) (N := 6875) (l := L18) (rest := D18) (segRun_of (ofFast (p18 w os))) (c18 w os)
noncomputable def D16 : List Stmt := L17 ++ D17
theorem c16 (w : World) (os : OsState) : topRun treeTable pw w 11 (some (r 6)) 7640 (S16 w os).abs (restOf D16 env cE ⟨353, 0, 356, 19⟩ BB) = some (S39 w os).abs := piece_app (n := 257) (N := 7383) (l := L17) (rest := D17) (segRun_of (ofFast (p17 w os))) (c17 w os)
noncomputable def D15 : List Stmt := L16 ++ D16
theorem c15 (w : World) (os : OsState) : topRun treeTable pw w 11 (some (r 6)) 7864 (S15 w os).abs (restOf D15 env cE ⟨349, 0, 352, 19⟩ BB) = some (S39 w os).abs := piece_app (n := 224) (N := 7640) (l := L16) (rest := D16) (segRun_of (ofFast (p16 w os))) (c16 w os)
noncomputable def D14 : List Stmt := L15 ++ D15
theorem c14 (w : World) (os : OsState) : topRun treeTable pw w 11 (some (r 6)) 8087 (S14 w os).abs (restOf D14 env cE ⟨345, 0, 348, 38⟩ BB) = some (S39 w os).abs := piece_app (n := 223) (N := 7864) (l := L15) (rest := D15) (segRun_of (ofFast (p15 w os))) (c15 w os)
noncomputable def D13 : List Stmt := L14 ++ D14
theorem c13 (w : World) (os : OsState) : topRun treeTable pw w 11 (some (r 6)) 8312 (S13 w os).abs (restOf D13 env cE ⟨335, 0, 344, 27⟩ BB) = some (S39 w os).abs := piece_app (n := 225) (N := 8087) (l := L14) (rest := D14) (segRun_of (ofFast (p14 w os))) (c14 w os)
noncomputable def D12 : List Stmt := L13 ++ D13
theorem c12 (w : World) (os : OsState) : topRun treeTable pw w 11 (some (r 6)) 8543 (S12 w os).abs (restOf D12 env cE ⟨334, 0, 334, 8⟩ BB) = some (S39 w os).abs := piece_app (n := 231) (N := 8312) (l := L13) (rest := D13) (segRun_of (ofFast (p13 w os))) (c13 w os)
noncomputable def D11 : List Stmt := L12 ++ D12
theorem c11 (w : World) (os : OsState) : topRun treeTable pw w 11 (some (r 6)) 8856 (S11 w os).abs (restOf D11 env cE ⟨258, 0, 258, 9⟩ BB) = some (S39 w os).abs := piece_app (n := 313) (N := 8543) (l := L12) (rest := D12) (segRun_of (ofFast (p12 w os))) (c12 w os)
noncomputable def D10 : List Stmt := L11 ++ D11
theorem c10 (w : World) (os : OsState) : topRun treeTable pw w 11 (some (r 6)) 9252 (S10 w os).abs (restOf D10 env cE ⟨202, 0, 210, 35⟩ BB) = some (S39 w os).abs := piece_app (n := 396) (N := 8856) (l := L11) (rest := D11) (segRun_of (ofFast (p11 w os))) (c11 w os)
noncomputable def D9 : List Stmt := L10 ++ D10
theorem c9 (w : World) (os : OsState) : topRun treeTable pw w 11 (some (r 6)) 9630 (S9 w os).abs (restOf D9 env cE ⟨118, 0, 123, 12⟩ BB) = some (S39 w os).abs := piece_app (n := 378) (N := 9252) (l := L10) (rest := D10) (segRun_of (ofFast (p10 w os))) (c10 w os)
noncomputable def D8 : List Stmt := L9 ++ D9
theorem c8 (w : World) (os : OsState) : topRun treeTable pw w 11 (some (r 6)) 10017 (S8 w os).abs (restOf D8 env cE ⟨55, 0, 55, 10⟩ BB) = some (S39 w os).abs := piece_app (n := 387) (N := 9630) (l := L9) (rest := D9) (segRun_of (ofFast (p9 w os))) (c9 w os)
noncomputable def D7 : List Stmt := L8 ++ D8
theorem c7 (w : World) (os : OsState) : topRun treeTable pw w 11 (some (r 6)) 10240 (S7 w os).abs (restOf D7 env cE ⟨54, 0, 54, 12⟩ BB) = some (S39 w os).abs := piece_app (n := 223) (N := 10017) (l := L8) (rest := D8) (segRun_of (ofFast (p8 w os))) (c8 w os)
noncomputable def D6 : List Stmt := L7 ++ D7
theorem c6 (w : World) (os : OsState) : topRun treeTable pw w 11 (some (r 6)) 10465 (S6 w os).abs (restOf D6 env cE ⟨51, 0, 51, 8⟩ BB) = some (S39 w os).abs := piece_app (n := 225) (N := 10240) (l := L7) (rest := D7) (segRun_of (ofFast (p7 w os))) (c7 w os)
noncomputable def D5 : List Stmt := L6 ++ D6
theorem c5 (w : World) (os : OsState) : topRun treeTable pw w 11 (some (r 6)) 10762 (S5 w os).abs (restOf D5 env cE ⟨40, 0, 40, 7⟩ BB) = some (S39 w os).abs := piece_app (n := 297) (N := 10465) (l := L6) (rest := D6) (segRun_of (ofFast (p6 w os))) (c6 w os)
noncomputable def D4 : List Stmt := L5 ++ D5
theorem c4 (w : World) (os : OsState) : topRun treeTable pw w 11 (some (r 6)) 11156 (S4 w os).abs (restOf D4 env cE ⟨17, 0, 18, 8⟩ BB) = some (S39 w os).abs := piece_app (n := 394) (N := 10762) (l := L5) (rest := D5) (segRun_of (ofFast (p5 w os))) (c5 w os)
noncomputable def D3 : List Stmt := L4 ++ D4
theorem c3 (w : World) (os : OsState) : topRun treeTable pw w 11 (some (r 6)) 11370 (S3 w os).abs (restOf D3 env cE ⟨15, 0, 16, 8⟩ BB) = some (S39 w os).abs := piece_app (n := 214) (N := 11156) (l := L4) (rest := D4) (segRun_of (ofFast (p4 w os))) (c4 w os)
noncomputable def D2 : List Stmt := L3 ++ D3
theorem c2 (w : World) (os : OsState) : topRun treeTable pw w 11 (some (r 6)) 11584 (S2 w os).abs (restOf D2 env cE ⟨10, 0, 14, 20⟩ BB) = some (S39 w os).abs := piece_app (n := 214) (N := 11370) (l := L3) (rest := D3) (segRun_of (ofFast (p3 w os))) (c3 w os)
noncomputable def D1 : List Stmt := L2 ++ D2
theorem c1 (w : World) (os : OsState) : topRun treeTable pw w 11 (some (r 6)) 11898 (S1 w os).abs (restOf D1 env cE ⟨0, 0, 0, 0⟩ BB) = some (S39 w os).abs := piece_app (n := 314) (N := 11584) (l := L2) (rest := D2) (segRun_of (ofFast (p2 w os))) (c2 w os)
theorem bodyIs : bE = D1 := by kernel_rfl
theorem cblock (w : World) (os : OsState) : segRun treeTable pw w 11 (some (r 6)) 1 1 (S0 w os).abs (blockOf bE env cE ⟨0, 0, 0, 0⟩ BB) = some (.next, (S1 w os).abs, cE, ⟨0, 0, 0, 0⟩) := by kernel_rfl
theorem cbody (w : World) (os : OsState) : topRun treeTable pw w 11 (some (r 6)) 11899 (S0 w os).abs ⟨denote treeTable cE, cE, ⟨0, 0, 0, 0⟩, BB⟩ = some (S39 w os).abs :=
  piece_block (n := 1) (N := 11898) (b := bE) (cblock w os) (bodyIs ▸ c1 w os)
theorem cpre (w : World) (os : OsState) : topGo treeTable pw w 11 (some (r 6)) 12 ⟨boot_heap w.params, ⟨[]⟩, boot_drawn, boot_toks, os⟩ (topStub pw) = some ((S0 w os).abs, ⟨denote treeTable cE, cE, ⟨0, 0, 0, 0⟩, BB⟩) := by kernel_rfl
theorem run (w : World) (os : OsState) : topRun treeTable pw w 11 (some (r 6)) 11911 ⟨boot_heap w.params, ⟨[]⟩, boot_drawn, boot_toks, os⟩ (topStub pw) = some (S39 w os).abs := go_top (n := 12) (N := 11899) (cpre w os) (cbody w os)
noncomputable def H1 (P : Params) : Heap := absHeap (m1_0 P) 1490 {}
noncomputable def q : Program := view pw [204]
noncomputable def loose : List Str := pw.boundNames.filter fun x => x != Str.ofString "law"
theorem openIs (w : World) : (fencedOpening treeTable pw w 11911).map (fun s => (s.heap, s.gens, s.drawn, s.toks)) = some (boot_heap w.params, ⟨[]⟩, boot_drawn, boot_toks) :=
  boot_open (p := pw) (N := 11911) (by kernel_rfl) (by decide) (fun s => by kernel_rfl) w
theorem sizeIs (w : World) : ((boot_heap w.params).isNs mainGlobals && (Array.mk ([] : List GenState)).size == 0, (boot_heap w.params).objs.size, (boot_heap w.params).nsMap mainGlobals "__annotations__") = (true, 11, some (r 6)) := by kernel_rfl
theorem lookA (w : World) (os : OsState) : (staticsOk (importedModules pw.main.body) (boot_heap w.params) (H1 w.params) && namesBound pw (H1 w.params) && gensDone ⟨H1 w.params, #[], {}, 2536, os⟩ && laidKept (boot_heap w.params) (H1 w.params)) = true := by kernel_rfl
noncomputable abbrev Xt (s : Shared) : Bool := xlAt q [] s && recOk [] s
theorem lookB (w : World) (os : OsState) : openSeen q loose (importedModules pw.main.body) Xt true ⟨H1 w.params, #[], {}, 2536, os⟩ = openGood q loose := by
  rw [PySem.W.Fast.te4187177175401517315]
  kernel_rfl
theorem leftIs : LeftO pw q loose Xt (fun s => s.heap) (fun w => H1 w.params) 11911 true :=
  LeftO.of_pieces openIs sizeIs run (by decide) fun w => funext fun os => looks_pair (lookA w os) (looks_pair (lookB w os) rfl)

end Hd
set_option maxHeartbeats 0
namespace Hd
noncomputable def KF : Params → Frag := fun P => (nat_lit 2, o2 P) :: (nat_lit 3, o3 P) :: (nat_lit 15, o15 P) :: (nat_lit 17, o17 P) :: (nat_lit 18, o18 P) :: (nat_lit 20, o20 P) :: (nat_lit 21, o21 P) :: (nat_lit 22, o22 P) :: (nat_lit 29, o29 P) :: (nat_lit 31, o31 P) :: (nat_lit 32, o32 P) :: (nat_lit 34, o34 P) :: (nat_lit 35, o35 P) :: (nat_lit 36, o36 P) :: (nat_lit 37, o37 P) :: (nat_lit 38, o38 P) :: (nat_lit 39, o39 P) :: (nat_lit 42, o42 P) :: (nat_lit 49, o49 P) :: (nat_lit 50, o50 P) :: (nat_lit 51, o51 P) :: (nat_lit 54, o54 P) :: (nat_lit 61, o61 P) :: (nat_lit 62, o62 P) :: (nat_lit 63, o63 P) :: (nat_lit 66, o66 P) :: (nat_lit 73, o73 P) :: (nat_lit 74, o74 P) :: (nat_lit 75, o75 P) :: (nat_lit 78, o78 P) :: (nat_lit 79, o79 P) :: (nat_lit 80, o80 P) :: (nat_lit 81, o81 P) :: (nat_lit 82, o82 P) :: (nat_lit 83, o83 P) :: (nat_lit 84, o84 P) :: (nat_lit 85, o85 P) :: (nat_lit 86, o86 P) :: (nat_lit 87, o87 P) :: (nat_lit 88, o88 P) :: (nat_lit 89, o89 P) :: (nat_lit 90, o90 P) :: (nat_lit 91, o91 P) :: (nat_lit 99, o99 P) :: (nat_lit 101, o101 P) :: (nat_lit 102, o102 P) :: (nat_lit 104, o104 P) :: (nat_lit 105, o105 P) :: (nat_lit 106, o106 P) :: (nat_lit 108, o108 P) :: (nat_lit 109, o109 P) :: (nat_lit 111, o111 P) :: (nat_lit 112, o112 P) :: (nat_lit 113, o113 P) :: (nat_lit 115, o115 P) :: (nat_lit 116, o116 P) :: (nat_lit 118, o118 P) :: (nat_lit 119, o119 P) :: (nat_lit 120, o120 P) :: (nat_lit 121, o121 P) :: (nat_lit 122, o122 P) :: (nat_lit 123, o123 P) :: (nat_lit 124, o124 P) :: (nat_lit 127, o127 P) :: (nat_lit 129, o129 P) :: (nat_lit 130, o130 P) :: (nat_lit 132, o132 P) :: (nat_lit 133, o133 P) :: (nat_lit 134, o134 P) :: (nat_lit 136, o136 P) :: (nat_lit 137, o137 P) :: (nat_lit 139, o139 P) :: (nat_lit 140, o140 P) :: (nat_lit 141, o141 P) :: (nat_lit 143, o143 P) :: (nat_lit 144, o144 P) :: (nat_lit 146, o146 P) :: (nat_lit 147, o147 P) :: (nat_lit 148, o148 P) :: (nat_lit 150, o150 P) :: (nat_lit 151, o151 P) :: (nat_lit 153, o153 P) :: (nat_lit 154, o154 P) :: (nat_lit 155, o155 P) :: (nat_lit 157, o157 P) :: (nat_lit 158, o158 P) :: (nat_lit 160, o160 P) :: (nat_lit 161, o161 P) :: (nat_lit 162, o162 P) :: (nat_lit 164, o164 P) :: (nat_lit 165, o165 P) :: (nat_lit 167, o167 P) :: (nat_lit 168, o168 P) :: (nat_lit 169, o169 P) :: (nat_lit 171, o171 P) :: (nat_lit 172, o172 P) :: (nat_lit 174, o174 P) :: (nat_lit 175, o175 P) :: (nat_lit 176, o176 P) :: (nat_lit 178, o178 P) :: (nat_lit 179, o179 P) :: (nat_lit 181, o181 P) :: (nat_lit 182, o182 P) :: (nat_lit 183, o183 P) :: (nat_lit 185, o185 P) :: (nat_lit 186, o186 P) :: (nat_lit 188, o188 P) :: (nat_lit 189, o189 P) :: (nat_lit 190, o190 P) :: (nat_lit 192, o192 P) :: (nat_lit 193, o193 P) :: (nat_lit 195, o195 P) :: (nat_lit 196, o196 P) :: (nat_lit 197, o197 P) :: (nat_lit 199, o199 P) :: (nat_lit 200, o200 P) :: (nat_lit 202, o202 P) :: (nat_lit 203, o203 P) :: (nat_lit 204, o204 P) :: (nat_lit 206, o206 P) :: (nat_lit 207, o207 P) :: (nat_lit 209, o209 P) :: (nat_lit 210, o210 P) :: (nat_lit 211, o211 P) :: (nat_lit 213, o213 P) :: (nat_lit 214, o214 P) :: (nat_lit 216, o216 P) :: (nat_lit 217, o217 P) :: (nat_lit 218, o218 P) :: (nat_lit 220, o220 P) :: (nat_lit 221, o221 P) :: (nat_lit 223, o223 P) :: (nat_lit 224, o224 P) :: (nat_lit 225, o225 P) :: (nat_lit 227, o227 P) :: (nat_lit 228, o228 P) :: (nat_lit 230, o230 P) :: (nat_lit 231, o231 P) :: (nat_lit 232, o232 P) :: (nat_lit 234, o234 P) :: (nat_lit 235, o235 P) :: (nat_lit 237, o237 P) :: (nat_lit 238, o238 P) :: (nat_lit 239, o239 P) :: (nat_lit 241, o241 P) :: (nat_lit 242, o242 P) :: (nat_lit 244, o244 P) :: (nat_lit 245, o245 P) :: (nat_lit 246, o246 P) :: (nat_lit 248, o248 P) :: (nat_lit 249, o249 P) :: (nat_lit 251, o251 P) :: (nat_lit 252, o252 P) :: (nat_lit 253, o253 P) :: (nat_lit 255, o255 P) :: (nat_lit 256, o256 P) :: (nat_lit 258, o258 P) :: (nat_lit 259, o259 P) :: (nat_lit 260, o260 P) :: (nat_lit 262, o262 P) :: (nat_lit 263, o263 P) :: (nat_lit 265, o265 P) :: (nat_lit 266, o266 P) :: (nat_lit 267, o267 P) :: (nat_lit 269, o269 P) :: (nat_lit 270, o270 P) :: (nat_lit 272, o272 P) :: (nat_lit 273, o273 P) :: (nat_lit 274, o274 P) :: (nat_lit 275, o275 P) :: (nat_lit 277, o277 P) :: (nat_lit 278, o278 P) :: (nat_lit 280, o280 P) :: (nat_lit 281, o281 P) :: (nat_lit 282, o282 P) :: (nat_lit 284, o284 P) :: (nat_lit 285, o285 P) :: (nat_lit 287, o287 P) :: (nat_lit 288, o288 P) :: (nat_lit 289, o289 P) :: (nat_lit 291, o291 P) :: (nat_lit 292, o292 P) :: (nat_lit 294, o294 P) :: (nat_lit 295, o295 P) :: (nat_lit 296, o296 P) :: (nat_lit 298, o298 P) :: (nat_lit 299, o299 P) :: (nat_lit 301, o301 P) :: (nat_lit 302, o302 P) :: (nat_lit 303, o303 P) :: (nat_lit 305, o305 P) :: (nat_lit 306, o306 P) :: (nat_lit 308, o308 P) :: (nat_lit 309, o309 P) :: (nat_lit 310, o310 P) :: (nat_lit 312, o312 P) :: (nat_lit 313, o313 P) :: (nat_lit 315, o315 P) :: (nat_lit 316, o316 P) :: (nat_lit 317, o317 P) :: (nat_lit 319, o319 P) :: (nat_lit 320, o320 P) :: (nat_lit 322, o322 P) :: (nat_lit 323, o323 P) :: (nat_lit 324, o324 P) :: (nat_lit 326, o326 P) :: (nat_lit 327, o327 P) :: (nat_lit 329, o329 P) :: (nat_lit 330, o330 P) :: (nat_lit 331, o331 P) :: (nat_lit 333, o333 P) :: (nat_lit 334, o334 P) :: (nat_lit 336, o336 P) :: (nat_lit 337, o337 P) :: (nat_lit 338, o338 P) :: (nat_lit 340, o340 P) :: (nat_lit 341, o341 P) :: (nat_lit 343, o343 P) :: (nat_lit 344, o344 P) :: (nat_lit 352, o352 P) :: (nat_lit 354, o354 P) :: (nat_lit 355, o355 P) :: (nat_lit 357, o357 P) :: (nat_lit 358, o358 P) :: (nat_lit 359, o359 P) :: (nat_lit 360, o360 P) :: (nat_lit 361, o361 P) :: (nat_lit 362, o362 P) :: (nat_lit 363, o363 P) :: (nat_lit 373, o373 P) :: (nat_lit 375, o375 P) :: (nat_lit 376, o376 P) :: (nat_lit 378, o378 P) :: (nat_lit 379, o379 P) :: (nat_lit 380, o380 P) :: (nat_lit 381, o381 P) :: (nat_lit 382, o382 P) :: (nat_lit 383, o383 P) :: (nat_lit 384, o384 P) :: (nat_lit 394, o394 P) :: (nat_lit 396, o396 P) :: (nat_lit 397, o397 P) :: (nat_lit 399, o399 P) :: (nat_lit 400, o400 P) :: (nat_lit 401, o401 P) :: (nat_lit 402, o402 P) :: (nat_lit 403, o403 P) :: (nat_lit 404, o404 P) :: (nat_lit 405, o405 P) :: (nat_lit 415, o415 P) :: (nat_lit 417, o417 P) :: (nat_lit 418, o418 P) :: (nat_lit 420, o420 P) :: (nat_lit 421, o421 P) :: (nat_lit 422, o422 P) :: (nat_lit 423, o423 P) :: (nat_lit 424, o424 P) :: (nat_lit 425, o425 P) :: (nat_lit 426, o426 P) :: (nat_lit 436, o436 P) :: (nat_lit 438, o438 P) :: (nat_lit 439, o439 P) :: (nat_lit 441, o441 P) :: (nat_lit 442, o442 P) :: (nat_lit 443, o443 P) :: (nat_lit 445, o445 P) :: (nat_lit 446, o446 P) :: (nat_lit 448, o448 P) :: (nat_lit 449, o449 P) :: (nat_lit 450, o450 P) :: (nat_lit 451, o451 P) :: (nat_lit 452, o452 P) :: (nat_lit 453, o453 P) :: (nat_lit 454, o454 P) :: (nat_lit 464, o464 P) :: (nat_lit 466, o466 P) :: (nat_lit 467, o467 P) :: (nat_lit 469, o469 P) :: (nat_lit 470, o470 P) :: (nat_lit 471, o471 P) :: (nat_lit 473, o473 P) :: (nat_lit 474, o474 P) :: (nat_lit 476, o476 P) :: (nat_lit 477, o477 P) :: (nat_lit 478, o478 P) :: (nat_lit 480, o480 P) :: (nat_lit 481, o481 P) :: (nat_lit 483, o483 P) :: (nat_lit 484, o484 P) :: (nat_lit 485, o485 P) :: (nat_lit 487, o487 P) :: (nat_lit 488, o488 P) :: (nat_lit 490, o490 P) :: (nat_lit 491, o491 P) :: (nat_lit 492, o492 P) :: (nat_lit 494, o494 P) :: (nat_lit 495, o495 P) :: (nat_lit 497, o497 P) :: (nat_lit 498, o498 P) :: (nat_lit 499, o499 P) :: (nat_lit 501, o501 P) :: (nat_lit 502, o502 P) :: (nat_lit 504, o504 P) :: (nat_lit 505, o505 P) :: (nat_lit 506, o506 P) :: (nat_lit 508, o508 P) :: (nat_lit 509, o509 P) :: (nat_lit 511, o511 P) :: (nat_lit 512, o512 P) :: (nat_lit 513, o513 P) :: (nat_lit 515, o515 P) :: (nat_lit 516, o516 P) :: (nat_lit 518, o518 P) :: (nat_lit 519, o519 P) :: (nat_lit 520, o520 P) :: (nat_lit 522, o522 P) :: (nat_lit 523, o523 P) :: (nat_lit 525, o525 P) :: (nat_lit 526, o526 P) :: (nat_lit 527, o527 P) :: (nat_lit 528, o528 P) :: (nat_lit 529, o529 P) :: (nat_lit 530, o530 P) :: (nat_lit 531, o531 P) :: (nat_lit 534, o534 P) :: (nat_lit 536, o536 P) :: (nat_lit 537, o537 P) :: (nat_lit 539, o539 P) :: (nat_lit 540, o540 P) :: (nat_lit 541, o541 P) :: (nat_lit 543, o543 P) :: (nat_lit 544, o544 P) :: (nat_lit 546, o546 P) :: (nat_lit 547, o547 P) :: (nat_lit 548, o548 P) :: (nat_lit 550, o550 P) :: (nat_lit 551, o551 P) :: (nat_lit 553, o553 P) :: (nat_lit 554, o554 P) :: (nat_lit 555, o555 P) :: (nat_lit 557, o557 P) :: (nat_lit 558, o558 P) :: (nat_lit 560, o560 P) :: (nat_lit 561, o561 P) :: (nat_lit 562, o562 P) :: (nat_lit 564, o564 P) :: (nat_lit 565, o565 P) :: (nat_lit 567, o567 P) :: (nat_lit 568, o568 P) :: (nat_lit 569, o569 P) :: (nat_lit 571, o571 P) :: (nat_lit 572, o572 P) :: (nat_lit 574, o574 P) :: (nat_lit 575, o575 P) :: (nat_lit 576, o576 P) :: (nat_lit 578, o578 P) :: (nat_lit 579, o579 P) :: (nat_lit 581, o581 P) :: (nat_lit 582, o582 P) :: (nat_lit 583, o583 P) :: (nat_lit 585, o585 P) :: (nat_lit 586, o586 P) :: (nat_lit 588, o588 P) :: (nat_lit 589, o589 P) :: (nat_lit 590, o590 P) :: (nat_lit 592, o592 P) :: (nat_lit 593, o593 P) :: (nat_lit 595, o595 P) :: (nat_lit 596, o596 P) :: (nat_lit 597, o597 P) :: (nat_lit 604, o604 P) :: (nat_lit 606, o606 P) :: (nat_lit 607, o607 P) :: (nat_lit 609, o609 P) :: (nat_lit 610, o610 P) :: (nat_lit 611, o611 P) :: (nat_lit 613, o613 P) :: (nat_lit 614, o614 P) :: (nat_lit 616, o616 P) :: (nat_lit 617, o617 P) :: (nat_lit 618, o618 P) :: (nat_lit 619, o619 P) :: (nat_lit 620, o620 P) :: (nat_lit 623, o623 P) :: (nat_lit 630, o630 P) :: (nat_lit 632, o632 P) :: (nat_lit 633, o633 P) :: (nat_lit 635, o635 P) :: (nat_lit 636, o636 P) :: (nat_lit 637, o637 P) :: (nat_lit 639, o639 P) :: (nat_lit 640, o640 P) :: (nat_lit 642, o642 P) :: (nat_lit 643, o643 P) :: (nat_lit 644, o644 P) :: (nat_lit 645, o645 P) :: (nat_lit 646, o646 P) :: (nat_lit 649, o649 P) :: (nat_lit 656, o656 P) :: (nat_lit 658, o658 P) :: (nat_lit 659, o659 P) :: (nat_lit 661, o661 P) :: (nat_lit 662, o662 P) :: (nat_lit 663, o663 P) :: (nat_lit 665, o665 P) :: (nat_lit 666, o666 P) :: (nat_lit 668, o668 P) :: (nat_lit 669, o669 P) :: (nat_lit 670, o670 P) :: (nat_lit 671, o671 P) :: (nat_lit 672, o672 P) :: (nat_lit 675, o675 P) :: (nat_lit 682, o682 P) :: (nat_lit 684, o684 P) :: (nat_lit 685, o685 P) :: (nat_lit 687, o687 P) :: (nat_lit 688, o688 P) :: (nat_lit 689, o689 P) :: (nat_lit 691, o691 P) :: (nat_lit 692, o692 P) :: (nat_lit 694, o694 P) :: (nat_lit 695, o695 P) :: (nat_lit 696, o696 P) :: (nat_lit 697, o697 P) :: (nat_lit 698, o698 P) :: (nat_lit 701, o701 P) :: (nat_lit 703, o703 P) :: (nat_lit 704, o704 P) :: (nat_lit 706, o706 P) :: (nat_lit 707, o707 P) :: (nat_lit 715, o715 P) :: (nat_lit 717, o717 P) :: (nat_lit 718, o718 P) :: (nat_lit 720, o720 P) :: (nat_lit 721, o721 P) :: (nat_lit 722, o722 P) :: (nat_lit 724, o724 P) :: (nat_lit 725, o725 P) :: (nat_lit 727, o727 P) :: (nat_lit 728, o728 P) :: (nat_lit 729, o729 P) :: (nat_lit 731, o731 P) :: (nat_lit 732, o732 P) :: (nat_lit 734, o734 P) :: (nat_lit 735, o735 P) :: (nat_lit 736, o736 P) :: (nat_lit 738, o738 P) :: (nat_lit 739, o739 P) :: (nat_lit 741, o741 P) :: (nat_lit 742, o742 P) :: (nat_lit 743, o743 P) :: (nat_lit 745, o745 P) :: (nat_lit 746, o746 P) :: (nat_lit 748, o748 P) :: (nat_lit 749, o749 P) :: (nat_lit 750, o750 P) :: (nat_lit 752, o752 P) :: (nat_lit 753, o753 P) :: (nat_lit 755, o755 P) :: (nat_lit 756, o756 P) :: (nat_lit 757, o757 P) :: (nat_lit 759, o759 P) :: (nat_lit 760, o760 P) :: (nat_lit 762, o762 P) :: (nat_lit 763, o763 P) :: (nat_lit 764, o764 P) :: (nat_lit 765, o765 P) :: (nat_lit 766, o766 P) :: (nat_lit 767, o767 P) :: (nat_lit 768, o768 P) :: (nat_lit 771, o771 P) :: (nat_lit 773, o773 P) :: (nat_lit 774, o774 P) :: (nat_lit 776, o776 P) :: (nat_lit 777, o777 P) :: (nat_lit 785, o785 P) :: (nat_lit 787, o787 P) :: (nat_lit 788, o788 P) :: (nat_lit 790, o790 P) :: (nat_lit 791, o791 P) :: (nat_lit 792, o792 P) :: (nat_lit 793, o793 P) :: (nat_lit 794, o794 P) :: (nat_lit 795, o795 P) :: (nat_lit 796, o796 P) :: (nat_lit 806, o806 P) :: (nat_lit 808, o808 P) :: (nat_lit 809, o809 P) :: (nat_lit 811, o811 P) :: (nat_lit 812, o812 P) :: (nat_lit 813, o813 P) :: (nat_lit 814, o814 P) :: (nat_lit 815, o815 P) :: (nat_lit 816, o816 P) :: (nat_lit 817, o817 P) :: (nat_lit 820, o820 P) :: (nat_lit 822, o822 P) :: (nat_lit 823, o823 P) :: (nat_lit 825, o825 P) :: (nat_lit 826, o826 P) :: (nat_lit 827, o827 P) :: (nat_lit 829, o829 P) :: (nat_lit 830, o830 P) :: (nat_lit 832, o832 P) :: (nat_lit 833, o833 P) :: (nat_lit 834, o834 P) :: (nat_lit 836, o836 P) :: (nat_lit 837, o837 P) :: (nat_lit 839, o839 P) :: (nat_lit 840, o840 P) :: (nat_lit 841, o841 P) :: (nat_lit 843, o843 P) :: (nat_lit 844, o844 P) :: (nat_lit 846, o846 P) :: (nat_lit 847, o847 P) :: (nat_lit 855, o855 P) :: (nat_lit 857, o857 P) :: (nat_lit 858, o858 P) :: (nat_lit 860, o860 P) :: (nat_lit 861, o861 P) :: (nat_lit 862, o862 P) :: (nat_lit 863, o863 P) :: (nat_lit 864, o864 P) :: (nat_lit 865, o865 P) :: (nat_lit 866, o866 P) :: (nat_lit 869, o869 P) :: (nat_lit 871, o871 P) :: (nat_lit 872, o872 P) :: (nat_lit 874, o874 P) :: (nat_lit 875, o875 P) :: (nat_lit 876, o876 P) :: (nat_lit 878, o878 P) :: (nat_lit 879, o879 P) :: (nat_lit 881, o881 P) :: (nat_lit 882, o882 P) :: (nat_lit 883, o883 P) :: (nat_lit 885, o885 P) :: (nat_lit 886, o886 P) :: (nat_lit 888, o888 P) :: (nat_lit 889, o889 P) :: (nat_lit 890, o890 P) :: (nat_lit 892, o892 P) :: (nat_lit 893, o893 P) :: (nat_lit 895, o895 P) :: (nat_lit 896, o896 P) :: (nat_lit 897, o897 P) :: (nat_lit 899, o899 P) :: (nat_lit 900, o900 P) :: (nat_lit 902, o902 P) :: (nat_lit 903, o903 P) :: (nat_lit 904, o904 P) :: (nat_lit 912, o912 P) :: (nat_lit 914, o914 P) :: (nat_lit 915, o915 P) :: (nat_lit 917, o917 P) :: (nat_lit 918, o918 P) :: (nat_lit 919, o919 P) :: (nat_lit 920, o920 P) :: (nat_lit 921, o921 P) :: (nat_lit 922, o922 P) :: (nat_lit 923, o923 P) :: (nat_lit 933, o933 P) :: (nat_lit 935, o935 P) :: (nat_lit 936, o936 P) :: (nat_lit 938, o938 P) :: (nat_lit 939, o939 P) :: (nat_lit 940, o940 P) :: (nat_lit 942, o942 P) :: (nat_lit 943, o943 P) :: (nat_lit 945, o945 P) :: (nat_lit 946, o946 P) :: (nat_lit 947, o947 P) :: (nat_lit 949, o949 P) :: (nat_lit 950, o950 P) :: (nat_lit 952, o952 P) :: (nat_lit 953, o953 P) :: (nat_lit 954, o954 P) :: (nat_lit 955, o955 P) :: (nat_lit 956, o956 P) :: (nat_lit 957, o957 P) :: (nat_lit 958, o958 P) :: (nat_lit 968, o968 P) :: (nat_lit 970, o970 P) :: (nat_lit 971, o971 P) :: (nat_lit 973, o973 P) :: (nat_lit 974, o974 P) :: (nat_lit 975, o975 P) :: (nat_lit 977, o977 P) :: (nat_lit 978, o978 P) :: (nat_lit 980, o980 P) :: (nat_lit 981, o981 P) :: (nat_lit 982, o982 P) :: (nat_lit 983, o983 P) :: (nat_lit 984, o984 P) :: (nat_lit 985, o985 P) :: (nat_lit 986, o986 P) :: (nat_lit 996, o996 P) :: (nat_lit 998, o998 P) :: (nat_lit 999, o999 P) :: (nat_lit 1001, o1001 P) :: (nat_lit 1002, o1002 P) :: (nat_lit 1003, o1003 P) :: (nat_lit 1005, o1005 P) :: (nat_lit 1006, o1006 P) :: (nat_lit 1008, o1008 P) :: (nat_lit 1009, o1009 P) :: (nat_lit 1010, o1010 P) :: (nat_lit 1012, o1012 P) :: (nat_lit 1013, o1013 P) :: (nat_lit 1015, o1015 P) :: (nat_lit 1016, o1016 P) :: (nat_lit 1017, o1017 P) :: (nat_lit 1019, o1019 P) :: (nat_lit 1020, o1020 P) :: (nat_lit 1022, o1022 P) :: (nat_lit 1023, o1023 P) :: (nat_lit 1024, o1024 P) :: (nat_lit 1026, o1026 P) :: (nat_lit 1027, o1027 P) :: (nat_lit 1029, o1029 P) :: (nat_lit 1030, o1030 P) :: (nat_lit 1031, o1031 P) :: (nat_lit 1033, o1033 P) :: (nat_lit 1034, o1034 P) :: (nat_lit 1036, o1036 P) :: (nat_lit 1037, o1037 P) :: (nat_lit 1038, o1038 P) :: (nat_lit 1040, o1040 P) :: (nat_lit 1041, o1041 P) :: (nat_lit 1043, o1043 P) :: (nat_lit 1044, o1044 P) :: (nat_lit 1045, o1045 P) :: (nat_lit 1047, o1047 P) :: (nat_lit 1048, o1048 P) :: (nat_lit 1050, o1050 P) :: (nat_lit 1051, o1051 P) :: (nat_lit 1052, o1052 P) :: (nat_lit 1054, o1054 P) :: (nat_lit 1055, o1055 P) :: (nat_lit 1057, o1057 P) :: (nat_lit 1058, o1058 P) :: (nat_lit 1059, o1059 P) :: (nat_lit 1061, o1061 P) :: (nat_lit 1062, o1062 P) :: (nat_lit 1064, o1064 P) :: (nat_lit 1065, o1065 P) :: (nat_lit 1066, o1066 P) :: (nat_lit 1068, o1068 P) :: (nat_lit 1069, o1069 P) :: (nat_lit 1071, o1071 P) :: (nat_lit 1072, o1072 P) :: (nat_lit 1073, o1073 P) :: (nat_lit 1075, o1075 P) :: (nat_lit 1076, o1076 P) :: (nat_lit 1078, o1078 P) :: (nat_lit 1079, o1079 P) :: (nat_lit 1080, o1080 P) :: (nat_lit 1082, o1082 P) :: (nat_lit 1083, o1083 P) :: (nat_lit 1085, o1085 P) :: (nat_lit 1086, o1086 P) :: (nat_lit 1087, o1087 P) :: (nat_lit 1089, o1089 P) :: (nat_lit 1090, o1090 P) :: (nat_lit 1092, o1092 P) :: (nat_lit 1093, o1093 P) :: (nat_lit 1094, o1094 P) :: (nat_lit 1096, o1096 P) :: (nat_lit 1097, o1097 P) :: (nat_lit 1099, o1099 P) :: (nat_lit 1100, o1100 P) :: (nat_lit 1101, o1101 P) :: (nat_lit 1103, o1103 P) :: (nat_lit 1104, o1104 P) :: (nat_lit 1106, o1106 P) :: (nat_lit 1107, o1107 P) :: (nat_lit 1108, o1108 P) :: (nat_lit 1109, o1109 P) :: (nat_lit 1110, o1110 P) :: (nat_lit 1111, o1111 P) :: (nat_lit 1112, o1112 P) :: (nat_lit 1115, o1115 P) :: (nat_lit 1117, o1117 P) :: (nat_lit 1118, o1118 P) :: (nat_lit 1120, o1120 P) :: (nat_lit 1121, o1121 P) :: (nat_lit 1122, o1122 P) :: (nat_lit 1124, o1124 P) :: (nat_lit 1125, o1125 P) :: (nat_lit 1127, o1127 P) :: (nat_lit 1128, o1128 P) :: (nat_lit 1129, o1129 P) :: (nat_lit 1131, o1131 P) :: (nat_lit 1132, o1132 P) :: (nat_lit 1134, o1134 P) :: (nat_lit 1135, o1135 P) :: (nat_lit 1136, o1136 P) :: (nat_lit 1138, o1138 P) :: (nat_lit 1139, o1139 P) :: (nat_lit 1141, o1141 P) :: (nat_lit 1142, o1142 P) :: (nat_lit 1143, o1143 P) :: (nat_lit 1145, o1145 P) :: (nat_lit 1146, o1146 P) :: (nat_lit 1148, o1148 P) :: (nat_lit 1149, o1149 P) :: (nat_lit 1150, o1150 P) :: (nat_lit 1152, o1152 P) :: (nat_lit 1153, o1153 P) :: (nat_lit 1155, o1155 P) :: (nat_lit 1156, o1156 P) :: (nat_lit 1157, o1157 P) :: (nat_lit 1159, o1159 P) :: (nat_lit 1160, o1160 P) :: (nat_lit 1162, o1162 P) :: (nat_lit 1163, o1163 P) :: (nat_lit 1164, o1164 P) :: (nat_lit 1166, o1166 P) :: (nat_lit 1167, o1167 P) :: (nat_lit 1169, o1169 P) :: (nat_lit 1170, o1170 P) :: (nat_lit 1171, o1171 P) :: (nat_lit 1173, o1173 P) :: (nat_lit 1174, o1174 P) :: (nat_lit 1176, o1176 P) :: (nat_lit 1177, o1177 P) :: (nat_lit 1178, o1178 P) :: (nat_lit 1180, o1180 P) :: (nat_lit 1181, o1181 P) :: (nat_lit 1183, o1183 P) :: (nat_lit 1184, o1184 P) :: (nat_lit 1185, o1185 P) :: (nat_lit 1192, o1192 P) :: (nat_lit 1194, o1194 P) :: (nat_lit 1195, o1195 P) :: (nat_lit 1197, o1197 P) :: (nat_lit 1198, o1198 P) :: (nat_lit 1199, o1199 P) :: (nat_lit 1201, o1201 P) :: (nat_lit 1202, o1202 P) :: (nat_lit 1204, o1204 P) :: (nat_lit 1205, o1205 P) :: (nat_lit 1206, o1206 P) :: (nat_lit 1207, o1207 P) :: (nat_lit 1208, o1208 P) :: (nat_lit 1211, o1211 P) :: (nat_lit 1218, o1218 P) :: (nat_lit 1220, o1220 P) :: (nat_lit 1221, o1221 P) :: (nat_lit 1223, o1223 P) :: (nat_lit 1224, o1224 P) :: (nat_lit 1225, o1225 P) :: (nat_lit 1227, o1227 P) :: (nat_lit 1228, o1228 P) :: (nat_lit 1230, o1230 P) :: (nat_lit 1231, o1231 P) :: (nat_lit 1232, o1232 P) :: (nat_lit 1233, o1233 P) :: (nat_lit 1234, o1234 P) :: (nat_lit 1237, o1237 P) :: (nat_lit 1239, o1239 P) :: (nat_lit 1240, o1240 P) :: (nat_lit 1242, o1242 P) :: (nat_lit 1243, o1243 P) :: (nat_lit 1244, o1244 P) :: (nat_lit 1251, o1251 P) :: (nat_lit 1253, o1253 P) :: (nat_lit 1254, o1254 P) :: (nat_lit 1256, o1256 P) :: (nat_lit 1257, o1257 P) :: (nat_lit 1258, o1258 P) :: (nat_lit 1260, o1260 P) :: (nat_lit 1261, o1261 P) :: (nat_lit 1263, o1263 P) :: (nat_lit 1264, o1264 P) :: (nat_lit 1265, o1265 P) :: (nat_lit 1267, o1267 P) :: (nat_lit 1268, o1268 P) :: (nat_lit 1270, o1270 P) :: (nat_lit 1271, o1271 P) :: (nat_lit 1272, o1272 P) :: (nat_lit 1274, o1274 P) :: (nat_lit 1275, o1275 P) :: (nat_lit 1277, o1277 P) :: (nat_lit 1278, o1278 P) :: (nat_lit 1279, o1279 P) :: (nat_lit 1281, o1281 P) :: (nat_lit 1282, o1282 P) :: (nat_lit 1284, o1284 P) :: (nat_lit 1285, o1285 P) :: (nat_lit 1286, o1286 P) :: (nat_lit 1288, o1288 P) :: (nat_lit 1289, o1289 P) :: (nat_lit 1291, o1291 P) :: (nat_lit 1292, o1292 P) :: (nat_lit 1293, o1293 P) :: (nat_lit 1295, o1295 P) :: (nat_lit 1296, o1296 P) :: (nat_lit 1298, o1298 P) :: (nat_lit 1299, o1299 P) :: (nat_lit 1300, o1300 P) :: (nat_lit 1302, o1302 P) :: (nat_lit 1303, o1303 P) :: (nat_lit 1305, o1305 P) :: (nat_lit 1306, o1306 P) :: (nat_lit 1307, o1307 P) :: (nat_lit 1309, o1309 P) :: (nat_lit 1310, o1310 P) :: (nat_lit 1312, o1312 P) :: (nat_lit 1313, o1313 P) :: (nat_lit 1314, o1314 P) :: (nat_lit 1315, o1315 P) :: (nat_lit 1316, o1316 P) :: (nat_lit 1319, o1319 P) :: (nat_lit 1321, o1321 P) :: (nat_lit 1322, o1322 P) :: (nat_lit 1324, o1324 P) :: (nat_lit 1325, o1325 P) :: (nat_lit 1326, o1326 P) :: (nat_lit 1328, o1328 P) :: (nat_lit 1329, o1329 P) :: (nat_lit 1331, o1331 P) :: (nat_lit 1332, o1332 P) :: (nat_lit 1333, o1333 P) :: (nat_lit 1335, o1335 P) :: (nat_lit 1336, o1336 P) :: (nat_lit 1338, o1338 P) :: (nat_lit 1339, o1339 P) :: (nat_lit 1340, o1340 P) :: (nat_lit 1342, o1342 P) :: (nat_lit 1343, o1343 P) :: (nat_lit 1345, o1345 P) :: (nat_lit 1346, o1346 P) :: (nat_lit 1347, o1347 P) :: (nat_lit 1350, o1350 P) :: (nat_lit 1351, o1351 P) :: (nat_lit 1352, o1352 P) :: (nat_lit 1354, o1354 P) :: (nat_lit 1355, o1355 P) :: (nat_lit 1357, o1357 P) :: (nat_lit 1358, o1358 P) :: (nat_lit 1359, o1359 P) :: (nat_lit 1361, o1361 P) :: (nat_lit 1362, o1362 P) :: (nat_lit 1364, o1364 P) :: (nat_lit 1365, o1365 P) :: (nat_lit 1366, o1366 P) :: (nat_lit 1368, o1368 P) :: (nat_lit 1369, o1369 P) :: (nat_lit 1371, o1371 P) :: (nat_lit 1372, o1372 P) :: (nat_lit 1373, o1373 P) :: (nat_lit 1375, o1375 P) :: (nat_lit 1376, o1376 P) :: (nat_lit 1378, o1378 P) :: (nat_lit 1379, o1379 P) :: (nat_lit 1380, o1380 P) :: (nat_lit 1382, o1382 P) :: (nat_lit 1383, o1383 P) :: (nat_lit 1385, o1385 P) :: (nat_lit 1386, o1386 P) :: (nat_lit 1387, o1387 P) :: (nat_lit 1389, o1389 P) :: (nat_lit 1390, o1390 P) :: (nat_lit 1392, o1392 P) :: (nat_lit 1393, o1393 P) :: (nat_lit 1394, o1394 P) :: (nat_lit 1396, o1396 P) :: (nat_lit 1397, o1397 P) :: (nat_lit 1399, o1399 P) :: (nat_lit 1400, o1400 P) :: (nat_lit 1401, o1401 P) :: (nat_lit 1403, o1403 P) :: (nat_lit 1404, o1404 P) :: (nat_lit 1406, o1406 P) :: (nat_lit 1407, o1407 P) :: (nat_lit 1408, o1408 P) :: (nat_lit 1410, o1410 P) :: (nat_lit 1411, o1411 P) :: (nat_lit 1413, o1413 P) :: (nat_lit 1414, o1414 P) :: (nat_lit 1415, o1415 P) :: (nat_lit 1417, o1417 P) :: (nat_lit 1418, o1418 P) :: (nat_lit 1420, o1420 P) :: (nat_lit 1421, o1421 P) :: (nat_lit 1422, o1422 P) :: (nat_lit 1424, o1424 P) :: (nat_lit 1425, o1425 P) :: (nat_lit 1427, o1427 P) :: (nat_lit 1428, o1428 P) :: (nat_lit 1429, o1429 P) :: (nat_lit 1431, o1431 P) :: (nat_lit 1432, o1432 P) :: (nat_lit 1434, o1434 P) :: (nat_lit 1435, o1435 P) :: (nat_lit 1436, o1436 P) :: (nat_lit 1438, o1438 P) :: (nat_lit 1439, o1439 P) :: (nat_lit 1441, o1441 P) :: (nat_lit 1442, o1442 P) :: (nat_lit 1443, o1443 P) :: (nat_lit 1445, o1445 P) :: (nat_lit 1446, o1446 P) :: (nat_lit 1448, o1448 P) :: (nat_lit 1449, o1449 P) :: (nat_lit 1450, o1450 P) :: (nat_lit 1452, o1452 P) :: (nat_lit 1453, o1453 P) :: (nat_lit 1455, o1455 P) :: (nat_lit 1456, o1456 P) :: (nat_lit 1457, o1457 P) :: (nat_lit 1459, o1459 P) :: (nat_lit 1460, o1460 P) :: (nat_lit 1462, o1462 P) :: (nat_lit 1463, o1463 P) :: (nat_lit 1464, o1464 P) :: (nat_lit 1466, o1466 P) :: (nat_lit 1467, o1467 P) :: (nat_lit 1469, o1469 P) :: (nat_lit 1470, o1470 P) :: (nat_lit 1471, o1471 P) :: (nat_lit 1473, o1473 P) :: (nat_lit 1474, o1474 P) :: (nat_lit 1476, o1476 P) :: (nat_lit 1477, o1477 P) :: (nat_lit 1478, o1478 P) :: (nat_lit 1480, o1480 P) :: (nat_lit 1481, o1481 P) :: (nat_lit 1483, o1483 P) :: (nat_lit 1484, o1484 P) :: (nat_lit 1485, o1485 P) :: (nat_lit 1488, o1488 P) :: (nat_lit 1489, o1489 P) :: []
theorem lookup_mem {α : Type} : ∀ {K : List (Nat × α)} {a : Nat} {o : α}, K.lookup a = some o → (a, o) ∈ K
  | [], _, _, h => by cases h
  | (b, o') :: K, a, o, h => by
    rw [List.lookup_cons] at h
    cases hb : a == b with
    | true => rw [hb] at h; cases h; rw [eq_of_beq hb]; exact .head _
    | false => rw [hb] at h; exact .tail _ (lookup_mem h)
theorem map_at {α β : Type} {f g : α → β} : ∀ {l : List α}, l.map f = l.map g → ∀ x ∈ l, f x = g x
  | _ :: _, h, _, .head _ => (List.cons.inj h).1
  | _ :: _, h, _, .tail _ hx => map_at (List.cons.inj h).2 _ hx
theorem kGet (P : Params) : (KF P).map (fun p => (m1_0 P).get p.1) = (KF P).map (fun p => some p.2) := by kernel_rfl
theorem kLow (P : Params) : (KF P).all (fun p => Nat.blt p.1 1490) = true := by kernel_rfl
theorem kAlive (P : Params) : (KF P).map (fun p => alive p.2) = (KF P).map (fun p => some p.2) := by kernel_rfl
theorem kIn (P : Params) : (KF P).In (H1 P) := fun a o h => by
  have hm := lookup_mem h
  have h1 := map_at (kGet P) _ hm
  have h2 : Nat.blt a 1490 = true := List.all_eq_true.mp (kLow P) _ hm
  have h3 := map_at (kAlive P) _ hm
  exact (abs_get (Nat.le_of_ble_eq_true h2) h1).trans h3
theorem kOf (w : World) (s : Shared) (h : s.heap = H1 w.params) : InK KF w s.heap := by
  show (KF w.params).In s.heap
  rw [h]; exact kIn w.params
theorem tw1 {α : Sort _} {a b : α} (E : α → Bool) (h : a = b) (k : E b = true) : E a = true := by subst h; exact k
theorem tw2 {α β : Sort _} {a b : α} {c d : β} (E : α → β → Bool) (h : a = b) (h2 : c = d) (k : E b d = true) : E a c = true := by subst h h2; exact k
theorem tw3 {α β γ : Sort _} {a b : α} {c d : β} {x y : γ} (E : α → β → γ → Bool) (h : a = b) (h2 : c = d) (h3 : x = y) (k : E b d y = true) : E a c x = true := by subst h h2 h3; exact k
noncomputable abbrev rw0 : OpenLaw := PySem.Challenge.rw_sz0064_01
theorem w_sre : ((@sreFenced) rw0.row.prog.main) = true := tw1 (a := @sreFenced) (fun f0 => (f0 rw0.row.prog.main)) PySem.W.Fast.te11788848310118352699 (by kernel_rfl)
theorem w_mod : (((@moduleNames) rw0.row.prog.main.body).isEmpty || (@lookedIntoSs) ((@moduleNames) rw0.row.prog.main.body) rw0.row.prog.main.body) = true := tw2 (a := @moduleNames) (c := @lookedIntoSs) (fun f0 f1 => ((f0 rw0.row.prog.main.body).isEmpty || f1 (f0 rw0.row.prog.main.body) rw0.row.prog.main.body)) PySem.W.Fast.te9807087744658564304 PySem.W.Fast.te12862048085361865435 (by kernel_rfl)
theorem w_res : ((@namesResolve) rw0.row.prog) = true := tw1 (a := @namesResolve) (fun f0 => (f0 rw0.row.prog)) PySem.W.Fast.te8377067652309620493 (by kernel_rfl)
theorem w_bn : (((@Program.boundNames) rw0.row.prog).all fun n => !(@List.contains Str (@instBEqOfDecidableEq Str (@instDecidableEqStr)) (@worldNames) n)) = true := tw3 (a := @Program.boundNames) (c := @worldNames) (x := @instDecidableEqStr) (fun f0 f1 f2 => ((f0 rw0.row.prog).all fun n => !(@List.contains Str (@instBEqOfDecidableEq Str f2) f1 n))) PySem.W.Fast.te18344453789297297638 PySem.W.Fast.te14412699480532031325 PySem.W.Fast.sDec_eq (by kernel_rfl)
theorem w_road : ((@noRoadLSs) { strict := !((@importedModules) rw0.row.prog.main.body).all cThrough.contains, foot := none, bare := (["vars", "dir", "locals"] : List Str).filter ((@readsOut) rw0.row.prog rw0.row.prog.main.body) } rw0.row.prog.main.body) = true := tw3 (a := @noRoadLSs) (c := @importedModules) (x := @readsOut) (fun f0 f1 f2 => (f0 { strict := !(f1 rw0.row.prog.main.body).all cThrough.contains, foot := none, bare := (["vars", "dir", "locals"] : List Str).filter (f2 rw0.row.prog rw0.row.prog.main.body) } rw0.row.prog.main.body)) PySem.W.Fast.te8326940854005059898 PySem.W.Fast.te5923862056798008813 PySem.W.Fast.te13343964577679436407 (by kernel_rfl)
theorem w_meet : ((@namesMeet) rw0.row.prog rw0.row.prog.main.body fun _ n => (@attrL) n) = true := tw2 (a := @namesMeet) (c := @attrL) (fun f0 f1 => (f0 rw0.row.prog rw0.row.prog.main.body fun _ n => f1 n)) PySem.W.Fast.te17119622794617984870 PySem.W.Fast.te17868728402115742887 (by kernel_rfl)
theorem w_bnc : (@List.contains Str (@instBEqOfDecidableEq Str (@instDecidableEqStr)) ((@Program.boundNames) rw0.row.prog) rw0.row.name) = true := tw2 (a := @Program.boundNames) (c := @instDecidableEqStr) (fun f0 f1 => (@List.contains Str (@instBEqOfDecidableEq Str f1) (f0 rw0.row.prog) rw0.row.name)) PySem.W.Fast.te18344453789297297638 PySem.W.Fast.sDec_eq (by kernel_rfl)
theorem w_ftl : (rw0.footing.all (@footLine)) = true := tw1 (a := @footLine) (fun f0 => (rw0.footing.all f0)) PySem.W.Fast.te10501279942588096481 (by kernel_rfl)
theorem w_ncb : ((@noClassBlock) rw0.prog rw0.footing) = true := tw1 (a := @noClassBlock) (fun f0 => (f0 rw0.prog rw0.footing)) PySem.W.Fast.te8179353310426384613 (by kernel_rfl)
theorem w_road2 : ((@noRoadLSs) { strict := true, foot := some ((@OpenLaw.bound') rw0), writes := rw0.writes, may := (@OpenLaw.may) rw0 } rw0.footing) = true := tw3 (a := @noRoadLSs) (c := @OpenLaw.bound') (x := @OpenLaw.may) (fun f0 f1 f2 => (f0 { strict := true, foot := some (f1 rw0), writes := rw0.writes, may := f2 rw0 } rw0.footing)) PySem.W.Fast.te8326940854005059898 PySem.W.Fast.te797321630700447069 PySem.W.Fast.te9572597257264208301 (by kernel_rfl)
theorem w_def : ((@defStands) rw0.about rw0.above) = true := tw1 (a := @defStands) (fun f0 => (f0 rw0.about rw0.above)) PySem.W.Fast.te9558739934217749035 (by kernel_rfl)
theorem w_nit : ((@OpenLaw.namesIt) rw0) = true := tw1 (a := @OpenLaw.namesIt) (fun f0 => (f0 rw0)) PySem.W.Fast.te16286561074155671207 (by kernel_rfl)
theorem w_bnd : (((@OpenLaw.bound') rw0).all (fun n => !(@builtinNamed) n || rw0.about == [n] || !(@OpenLaw.reads) rw0 n)) = true := tw3 (a := @OpenLaw.bound') (c := @builtinNamed) (x := @OpenLaw.reads) (fun f0 f1 f2 => ((f0 rw0).all (fun n => !f1 n || rw0.about == [n] || !f2 rw0 n))) PySem.W.Fast.te797321630700447069 PySem.W.Fast.named_eq PySem.W.Fast.te6984425678791042302 (by kernel_rfl)
theorem w_meet2 : ((@namesMeet) rw0.prog rw0.footing (fun sc n => (!(@List.contains Str (@instBEqOfDecidableEq Str (@instDecidableEqStr)) ["type", "isinstance", "issubclass", "getattr", "hasattr"] n) || sc.names.lookup n == some .globalImplicit) &&
    ((@OpenLaw.may) rw0 != some n || sc.kind == .module || sc.names.lookup n == some .globalImplicit))) = true := tw3 (a := @namesMeet) (c := @instDecidableEqStr) (x := @OpenLaw.may) (fun f0 f1 f2 => (f0 rw0.prog rw0.footing (fun sc n => (!(@List.contains Str (@instBEqOfDecidableEq Str f1) ["type", "isinstance", "issubclass", "getattr", "hasattr"] n) || sc.names.lookup n == some .globalImplicit) &&
    (f2 rw0 != some n || sc.kind == .module || sc.names.lookup n == some .globalImplicit)))) PySem.W.Fast.te17119622794617984870 PySem.W.Fast.sDec_eq PySem.W.Fast.te9572597257264208301 (by kernel_rfl)
theorem w_above : ((@namesMeet) rw0.prog rw0.above (fun _ n => !(@List.contains Str (@instBEqOfDecidableEq Str (@instDecidableEqStr)) ((@OpenLaw.own) rw0) n))) = true := tw3 (a := @namesMeet) (c := @OpenLaw.own) (x := @instDecidableEqStr) (fun f0 f1 f2 => (f0 rw0.prog rw0.above (fun _ n => !(@List.contains Str (@instBEqOfDecidableEq Str f2) (f1 rw0) n)))) PySem.W.Fast.te17119622794617984870 PySem.W.Fast.te10792542408131684335 PySem.W.Fast.sDec_eq (by kernel_rfl)
theorem w_foot : ((@namesMeet) rw0.prog rw0.footing fun sc n => sc.kind == .module || sc.names.lookup n != some .globalExplicit) = true := tw1 (a := @namesMeet) (fun f0 => (f0 rw0.prog rw0.footing fun sc n => sc.kind == .module || sc.names.lookup n != some .globalExplicit)) PySem.W.Fast.te17119622794617984870 (by kernel_rfl)
theorem w_own : (@List.contains Str (@instBEqOfDecidableEq Str (@instDecidableEqStr)) ((@OpenLaw.own) rw0) rw0.name) = true := tw2 (a := @OpenLaw.own) (c := @instDecidableEqStr) (fun f0 f1 => (@List.contains Str (@instBEqOfDecidableEq Str f1) (f0 rw0) rw0.name)) PySem.W.Fast.te10792542408131684335 PySem.W.Fast.sDec_eq (by kernel_rfl)
theorem w_dup : ((@List.eraseDups Str (@instBEqOfDecidableEq Str (@instDecidableEqStr)) ((@OpenLaw.own) rw0)).length == ((@OpenLaw.own) rw0).length) = true := tw2 (a := @OpenLaw.own) (c := @instDecidableEqStr) (fun f0 f1 => ((@List.eraseDups Str (@instBEqOfDecidableEq Str f1) (f0 rw0)).length == (f0 rw0).length)) PySem.W.Fast.te10792542408131684335 PySem.W.Fast.sDec_eq (by kernel_rfl)
theorem w_obn : (((@OpenLaw.own) rw0).all fun n => !(@builtinNamed) n) = true := tw2 (a := @OpenLaw.own) (c := @builtinNamed) (fun f0 f1 => ((f0 rw0).all fun n => !f1 n)) PySem.W.Fast.te10792542408131684335 PySem.W.Fast.named_eq (by kernel_rfl)
theorem wellIs : PySem.Challenge.rw_sz0064_01.wellSaid = true := by
  unfold OpenLaw.wellSaid OpenRow.wellSaid OpenRow.partSaid looksOpen
  repeat' with_reducible refine look_both ?_ ?_
  · exact w_sre
  · exact w_mod
  · exact w_res
  · exact w_bn
  · exact w_road
  · exact w_meet
  · kernel_rfl
  · kernel_rfl
  · kernel_rfl
  · kernel_rfl
  · kernel_rfl
  · kernel_rfl
  · kernel_rfl
  · kernel_rfl
  · kernel_rfl
  · kernel_rfl
  · kernel_rfl
  · kernel_rfl
  · kernel_rfl
  · exact w_bnc
  · kernel_rfl
  · kernel_rfl
  · exact w_ftl
  · exact w_ncb
  · kernel_rfl
  · kernel_rfl
  · exact w_road2
  · exact w_def
  · exact w_nit
  · kernel_rfl
  · exact w_bnd
  · kernel_rfl
  · kernel_rfl
  · exact w_meet2
  · exact w_own
  · exact w_dup
  · exact w_obn
  · exact w_above
  · exact w_foot
theorem okIs : (chainsOk q && opensWell PySem.Challenge.rw_sz0064_01.row.toRowW.prog && (frees PySem.Challenge.rw_sz0064_01.row.toRowW && PySem.Challenge.rw_sz0064_01.row.toRowW.within.isEmpty)) = true := by kernel_rfl
end Hd
set_option maxHeartbeats 8000000
namespace Hd
theorem bareIs : PySem.Challenge.pw_sz0064_01.bare := ⟨rfl, rfl, rfl, rfl, rfl, by decide +kernel⟩
theorem impIs : importsNone q = true := by kernel_rfl
theorem namesIs : namesOk q (looseW q loose) (namesW q loose) = true := by kernel_rfl
end Hd
set_option maxHeartbeats 8000000
namespace Hd
theorem fill (P : Params) : KF P = KF P ∧ PySem.Challenge.rw_sz0064_01 = PySem.Challenge.rw_sz0064_01 := by
  k_fill
  exact ⟨rfl, rfl⟩
/-- a def's contract: handed vs (and pre of the ledger), it comes back in one of the ways of T; d: how deep it calls -/
structure CC (w : World) (d : Nat) (f : Addr) (vs : List Value) (pre : List (Addr × Obj) → Prop) (T : List (Addr × Obj) → (Value → List (Addr × Obj) → Prop) → Prop) : Prop where
  run : ∀ (p : Program) (loose : List Str) (mean : ExcName → Option Value) (mg mb : Str → Option Value) (news : List (Addr × Obj))
    (dp un : Nat) (gd : Option (List Code)) (cn : Str) (cs : Scope) (a : Addr) (ccd : Value) (cl : List (Str × Addr)) (outer : List Env) (A₀ : Around) (base h₀ : Heap) (L : Addr) (m : Str → Option Value) (s : Shared) (Q E : Value → Shared → Prop),
    Below A₀ base outer h₀ → Fr h₀ L s.heap m → (KF w.params).In h₀ → News h₀ L s.heap news → Top p loose mean mg mb h₀ → cs.kind = .function →
    pre news → dp + d < recursionLimit → un + 8 * d < cLine → T news (fun v news' => ∀ h' tk', Fr h₀ L h' m → News h₀ L h' news' → Q v { s with heap := h', toks := tk' }) →
      wpAny (model PySem.Challenge.pw_sz0064_01 w) (ktrTop dp un gd cn cs L a ccd cl outer) (call (.ref f) vs) Q E s
/-- a contract that hands back R and turns nothing of the ledger -/
noncomputable abbrev CP (w : World) (d : Nat) (f : Addr) (vs : List Value) (pre : List (Addr × Obj) → Prop) (R : Tok → Value) : Prop := CC w d f vs pre fun news k => ∀ t, k (R t) news
theorem cc_use {w : World} {d : Nat} {f : Addr} {vs : List Value} {pre : List (Addr × Obj) → Prop} {R : List (Addr × Obj) → (Value → List (Addr × Obj) → Prop) → Prop} {p : Program} {loose : List Str} {mean : ExcName → Option Value} {mg mb : Str → Option Value} {news : List (Addr × Obj)}
    {dp un : Nat} {gd : Option (List Code)} {cn : Str} {cs : Scope} {a : Addr} {ccd : Value} {cl : List (Str × Addr)} {outer : List Env} {A₀ : Around} {base h₀ : Heap} {L : Addr} {m : Str → Option Value} {s : Shared} {Q E : Value → Shared → Prop}
    (C : CC w d f vs pre R) (B : Below A₀ base outer h₀) (F : Fr h₀ L s.heap m) (X : (KF w.params).In h₀) (N : News h₀ L s.heap news) (T : Top p loose mean mg mb h₀) (hk : cs.kind = .function)
    (hd : dp + d < recursionLimit) (hu : un + 8 * d < cLine) (hp : pre news) (ret : R news (fun v news' => ∀ h' tk', Fr h₀ L h' m → News h₀ L h' news' → Q v { s with heap := h', toks := tk' })) :
    wpAny (model PySem.Challenge.pw_sz0064_01 w) (ktrTop dp un gd cn cs L a ccd cl outer) (call (.ref f) vs) Q E s := C.run _ _ _ _ _ _ _ _ _ _ _ _ _ _ _ _ _ _ _ _ _ _ _ B F X N T hk hp hd hu ret
theorem room0 {dp k R : Nat} (h : dp + k < R) : dp < R := by omega
theorem roomA {dp k R : Nat} (h : dp + k < R) (e : 1 ≤ k) : dp + 1 < R := by omega
theorem roomB {dp k R : Nat} (h : dp + k < R) (e : 2 ≤ k) : dp + 1 + 1 < R := by omega
theorem roomC {dp k R : Nat} (h : dp + k < R) (e : 3 ≤ k) : dp + 1 + 1 + 1 < R := by omega
theorem room1 {dp k d R : Nat} (h : dp + k < R) (e : d + 1 ≤ k) : dp + 1 + d < R := by omega
theorem room2 {dp k d R : Nat} (h : dp + k < R) (e : d + 2 ≤ k) : dp + 1 + 1 + d < R := by omega
theorem room3 {dp k d R : Nat} (h : dp + k < R) (e : d + 3 ≤ k) : dp + 1 + 1 + 1 + d < R := by omega
theorem uroom1 {dp k d R : Nat} (h : dp + 8 * k < R) (e : d + 1 ≤ k) : dp + 3 + 8 * d < R := by omega
theorem uroom2 {dp k d R : Nat} (h : dp + 8 * k < R) (e : d + 2 ≤ k) : dp + 3 + 3 + 8 * d < R := by omega
theorem uroom3 {dp k d R : Nat} (h : dp + 8 * k < R) (e : d + 3 ≤ k) : dp + 3 + 3 + 3 + 8 * d < R := by omega
section
variable {w : World} {A : Around} {E : Value → Shared → Prop} {s : Shared} {h₀ : Heap} {L a : Addr} {news : List (Addr × Obj)} {rs : List Value} {n : Nat}
theorem lstN (N : News h₀ L s.heap news) (hm : (a, listOf rs.toArray n) ∈ news) : s.heap.IsList a rs.toArray := ⟨_, (N _ hm).1, rfl, n, rfl⟩
theorem len_news {k : Nat} {Q : Value → Shared → Prop} (N : News h₀ L s.heap news) (hm : (a, listOf rs.toArray n) ∈ news) (hk : rs.length = k) (hf : (k : Int) < 2 ^ 63) (h : Q (.int k (s.toks + 1)) { s with toks := s.toks + 1 + 1 }) :
    wpAny (model PySem.Challenge.pw_sz0064_01 w) A (call (.builtin "len") [.ref a]) Q E s := by
  subst hk
  exact len_list (lstN N hm) (by rw [List.size_toArray]; exact hf) (by rw [List.size_toArray]; exact h)
theorem item_news {value slice : PySem.Expr} {k : Int} {u : Tok} {v : Value} {Q : Value → Shared → Prop} (N : News h₀ L s.heap news) (hm : (a, listOf rs.toArray n) ∈ news)
    (h0 : 0 ≤ k) (hhi : k < 2 ^ 63) (hx : rs[k.toNat]? = some v) (h : Q v s)
    (hs : subscripted slice false (.ref a) (.int k u) = operate [.ref a, .int k u] (getItem (.ref a) (.int k u)) := by with_unfolding_all rfl) :
    wpAny (model PySem.Challenge.pw_sz0064_01 w) A (subscriptTail value slice (.ref a) (.int k u)) Q E s :=
  tail_any (lstN N hm).typeIs slot_list_getitem.lookup (wpAny_getItem_list (lstN N hm) h0 hhi (by simpa using hx) h) hs
end
/-- the ledger with one object brought to the front (the others keep apart from it) -/
noncomputable abbrev foc (d : Addr) (o : Obj) (news : List (Addr × Obj)) : List (Addr × Obj) := (d, o) :: news.filter (fun p => p.1 != d)
theorem foc_ne {d : Addr} {news : List (Addr × Obj)} : ∀ p ∈ news.filter (fun p => p.1 != d), p.1 ≠ d := fun p hp => by
  have := (List.mem_filter.mp hp).2
  simpa using this
theorem foc_news {h₀ h : Heap} {L d : Addr} {o : Obj} {news : List (Addr × Obj)} (N : News h₀ L h news) (hm : (d, o) ∈ news) : News h₀ L h (foc d o news) := fun p hp => by
  rcases List.mem_cons.mp hp with rfl | hp
  · exact N _ hm
  · exact N _ (List.mem_filter.mp hp).1
theorem mem_foc {d a : Addr} {o : Obj} {news : List (Addr × Obj)} (hm : (a, o) ∈ news) (hn : a ≠ d) : (a, o) ∈ news.filter (fun p => p.1 != d) := List.mem_filter.mpr ⟨hm, by simpa using hn⟩
theorem foc_lt {d x : Addr} {news : List (Addr × Obj)} (h : ∀ p ∈ news, p.1 < x) : ∀ p ∈ news.filter (fun p => p.1 != d), p.1 < x := fun p hp => h p (List.mem_filter.mp hp).1
section
variable {w : World} {A : Around} {E : Value → Shared → Prop} {s : Shared} {h₀ : Heap} {L a : Addr} {m : Str → Option Value} {news : List (Addr × Obj)} {rs : List Value} {n : Nat}
theorem append_news {x : Value} {Q : Value → Shared → Prop} (F : Fr h₀ L s.heap m) (N : News h₀ L s.heap news) (hm : (a, listOf rs.toArray n) ∈ news) (hz : rs.length ≤ sizeLine)
    (h : ∀ h', Fr h₀ L h' m → News h₀ L h' (foc a (listOf (rs ++ [x]).toArray (n + 1)) news) → Q .none { s with heap := h' }) :
    wpAny (model PySem.Challenge.pw_sz0064_01 w) A (call (.builtin "list.append") [.ref a, x]) Q E s :=
  append_K (hsz := by rw [List.size_toArray]; exact hz) F (foc_news N hm) (by
    have e : rs.toArray.push x = (rs ++ [x]).toArray := by simp
    rw [← e]
    exact Upd.head foc_ne) h
end
theorem putL_len (name : Str) (hsh : Int) (key v : Value) : ∀ es : List DictEntry, es.any (·.key.isStr name) = true → (putL name hsh key v es).length = es.length
  | [], h => by cases h
  | e :: r, h => by
    unfold putL
    cases q : e.key.isStr name with
    | true => simp
    | false =>
      simp only [Bool.false_eq_true, if_false, List.length_cons]
      rw [putL_len name hsh key v r (by simpa [List.any_cons, q] using h)]
theorem putL_find_self (name : Str) (hsh : Int) (key v : Value) : ∀ es : List DictEntry, es.any (·.key.isStr name) = true → ((putL name hsh key v es).find? (·.key.isStr name)).map (·.val) = some v
  | [], h => by cases h
  | e :: r, h => by
    unfold putL
    cases q : e.key.isStr name with
    | true => simp [List.find?_cons, q]
    | false =>
      simp only [Bool.false_eq_true, if_false, List.find?_cons, q]
      exact putL_find_self name hsh key v r (by simpa [List.any_cons, q] using h)
theorem putL_find_other (name x : Str) (hsh : Int) (key v : Value) (hx : ∀ u : Value, u.isStr name = true → u.isStr x = false) : ∀ es : List DictEntry, es.any (·.key.isStr name) = true → ((putL name hsh key v es).find? (·.key.isStr x)).map (·.val) = (es.find? (·.key.isStr x)).map (·.val)
  | [], h => by cases h
  | e :: r, h => by
    unfold putL
    cases q : e.key.isStr name with
    | true =>
      have := hx _ q
      simp [List.find?_cons, this]
    | false =>
      simp only [Bool.false_eq_true, if_false, List.find?_cons]
      cases e.key.isStr x with
      | true => rfl
      | false => exact putL_find_other name x hsh key v hx r (by simpa [List.any_cons, q] using h)
theorem putL_ref (name : Str) (hsh : Int) (key v : Value) : ∀ es : List DictEntry, es.any (·.key.isStr name) = true → (putL name hsh key v es).any (·.refKey) = es.any (·.refKey)
  | [], h => by cases h
  | e :: r, h => by
    unfold putL
    cases q : e.key.isStr name with
    | true => simp [DictEntry.refKey]
    | false =>
      simp only [Bool.false_eq_true, if_false, List.any_cons]
      rw [putL_ref name hsh key v r (by simpa [List.any_cons, q] using h)]
theorem any_of_getL {name : Str} {es : List DictEntry} {v : Value} (h : getL name es = some (some v)) : es.any (·.key.isStr name) = true := by
  unfold getL at h
  cases q : es.find? (·.key.isStr name) with
  | some e => exact List.any_eq_true.mpr ⟨e, List.mem_of_find?_eq_some q, by simpa using List.find?_some q⟩
  | none => rw [q] at h; dsimp only at h; split at h <;> cases h
theorem getL_self {name : Str} {hsh : Int} {key v v0 : Value} {es : List DictEntry} (h : getL name es = some (some v0)) : getL name (putL name hsh key v es) = some (some v) := by
  have q := putL_find_self name hsh key v es (any_of_getL h)
  unfold getL
  cases z : (putL name hsh key v es).find? (·.key.isStr name) with
  | none => rw [z] at q; cases q
  | some e => rw [z] at q; cases q; rfl
theorem isStr_apart {name x : Str} (hne : x ≠ name) (u : Value) (h : u.isStr name = true) : u.isStr x = false := by
  cases u <;> simp only [Value.isStr] at h ⊢ <;> try rfl
  have := eq_of_beq h
  subst this
  simpa using fun e => hne e.symm
theorem getL_other {name x : Str} {hsh : Int} {key v v0 : Value} {es : List DictEntry} (h : getL name es = some (some v0)) (hne : x ≠ name) : getL x (putL name hsh key v es) = getL x es := by
  have q := putL_find_other name x hsh key v (isStr_apart hne) es (any_of_getL h)
  have r := putL_ref name hsh key v es (any_of_getL h)
  unfold getL
  rw [r]
  cases z : (putL name hsh key v es).find? (·.key.isStr x) <;> cases y : es.find? (·.key.isStr x) <;> rw [z, y] at q <;> first | rfl | (cases q; done) | (simp only [Option.map_some, Option.some.injEq] at q; simp only [q])
theorem putN_is {name : Str} {es : List DictEntry} {n : Nat} {v : Value} (h : getL name es = some (some v)) : putN name es n = n := by
  unfold putN
  rw [if_pos (any_of_getL h)]
section
variable {w : World} {A : Around} {E : Value → Shared → Prop} {s : Shared} {h₀ : Heap} {L x C dx : Addr} {m : Str → Option Value} {news : List (Addr × Obj)} {es : List DictEntry} {n : Nat} {name : Str} {v v0 : Value}
theorem set_news {Q : Unit → Shared → Prop} (F : Fr h₀ L s.heap m) (X₀ : (KF w.params).In h₀) (N : News h₀ L s.heap news) (hx : (x, instObj C dx) ∈ news) (hd : (dx, dictOf es n) ∈ news) (hg : getL name es = some (some v0))
    (hs : findIn (KF w.params) (.ref C) "__setattr__" = some (some (.builtin "object.__setattr__"))) (hp : plainOver (KF w.params) C = true) (ht : takerIn (KF w.params) C name = some none) (hh : hasDictIn (KF w.params) C = true) (hz : es.length ≤ 1000)
    (h : ∀ h' es', es'.length = es.length → getL name es' = some (some v) → (∀ y, y ≠ name → getL y es' = getL y es) → Fr h₀ L h' m → News h₀ L h' (foc dx (dictOf es' n) news) → Q () { s with heap := h', toks := s.toks + 2 }) :
    wpAny (model PySem.Challenge.pw_sz0064_01 w) A (setAttr (.ref x) name v) Q E s :=
  set_dict (es' := putL name (PyData.keyHash w.params name) (.str name (s.toks + 1)) v es) (n' := n) F X₀ (foc_news N hd) (InstAt.of_news N hx hd) rfl hs hp ht hh (by rw [hg]; rfl) (Prod.ext rfl (putN_is hg)) (Upd.head foc_ne) (by rw [putL_len _ _ _ _ _ (any_of_getL hg)]; exact hz)
    fun h' F' N' => h h' _ (putL_len _ _ _ _ _ (any_of_getL hg)) (getL_self hg) (fun y hy => getL_other hg hy) F' N'
end
section
variable {w : World} {A : Around} {E : Value → Shared → Prop} {s : Shared} {h₀ : Heap} {L d : Addr} {m : Str → Option Value} {news : List (Addr × Obj)} {o : Obj} {kvs : List (Int × Value)} {k : Int} {t : Tok} {v : Value}
theorem setItem_news {Q : Unit → Shared → Prop} (F : Fr h₀ L s.heap m) (N : News h₀ L s.heap news) (hm : (d, o) ∈ news) (hd : o.IsDictOf (intKind PySem.Challenge.pw_sz0064_01 w) kvs) (hz : kvs.length ≤ sizeLine)
    (h : ∀ h' o', Fr h₀ L h' m → News h₀ L h' (foc d o' news) → o'.IsDictOf (intKind PySem.Challenge.pw_sz0064_01 w) (stored kvs k v) → Q () { s with heap := h', toks := s.toks + 1 }) :
    wpAny (model PySem.Challenge.pw_sz0064_01 w) A (setItem (.ref d) (.int k t) v) Q E s := by
  refine wpAny_setItem_pairs (hsz := hz) (intKind_is _ w k t) (Heap.dictOf_iff.mpr ⟨o, N.get hm, hd⟩) fun h' hm' hs => ?_
  obtain ⟨o', ho', hd'⟩ := Heap.dictOf_iff.mp hm'
  exact h h' o' (F.change hs (N _ hm).2.1 (N.fresh hm)) ((foc_news N hm).setHead foc_ne hs ho') hd'
end
/-- a contract with effects -/
noncomputable abbrev CE (w : World) (d : Nat) (f : Addr) (vs : List Value) (pre : List (Addr × Obj) → Prop) (Post : List (Addr × Obj) → List (Addr × Obj) → Value → Prop) : Prop := CC w d f vs pre fun news k => ∀ v news', Post news news' v → k v news'
theorem allLt_to {d : Addr} : ∀ {l : List (Addr × Obj)}, AllLt d l → ∀ p ∈ l, p.1 < d
  | [], _ => fun _ h => absurd h (List.not_mem_nil)
  | q :: r, h => fun p hp => by
    rcases List.mem_cons.mp hp with rfl | hp
    · exact h.1
    · exact allLt_to h.2 p hp


noncomputable abbrev pg : Program := PySem.Challenge.pw_sz0064_01
noncomputable abbrev Locs := List (Str × (Tok → Value))
noncomputable abbrev Led := List (Addr × Obj)
/-- a frame's fixed part -/
structure Cx where
  p : Program
  loose : List Str
  mean : ExcName → Option Value
  mg : Str → Option Value
  mb : Str → Option Value
  dp : Nat
  un : Nat
  gd : Option (List Code)
  cn : Str
  a : Addr
  ccd : Value
  outer : List Env
  A₀ : Around
  base : Heap
  h₀ : Heap
  L : Addr
noncomputable def Cx.env (c : Cx) (cs : Scope) : Env := envX c.cn cs c.L c.a c.ccd []
noncomputable def Cx.ar (c : Cx) (cs : Scope) : Around := ktrTop c.dp c.un c.gd c.cn cs c.L c.a c.ccd [] c.outer
structure Ok (w : World) (D : Nat) (c : Cx) (cs : Scope) : Prop where
  below : Below c.A₀ c.base c.outer c.h₀
  X : (KF w.params).In c.h₀
  top : Top c.p c.loose c.mean c.mg c.mb c.h₀
  kind : cs.kind = .function
  rd : c.dp + D < recursionLimit
  ru : c.un + 8 * D < cLine
structure Sta (c : Cx) (mm : Locs) (news : Led) (h : Heap) : Prop where
  loc : ∃ m, Fr c.h₀ c.L h m ∧ ∀ x V, mm.lookup x = some V → ∃ t, m x = some (V t)
  news : News c.h₀ c.L h news
noncomputable def Go {α : Type} (w : World) (D : Nat) (c : Cx) (cs : Scope) (mm : Locs) (news : Led) (t : Sem α) (K : α → Led → Prop) : Prop :=
  Ok w D c cs → ∀ (s : Shared) (Q : α → Shared → Prop) (E : Value → Shared → Prop), Sta c mm news s.heap →
    (∀ v news' h' tk', Sta c mm news' h' → K v news' → Q v { s with heap := h', toks := tk' }) → wpAny (model pg w) (c.ar cs) t Q E s
noncomputable def Vl (v : Value) (V : Tok → Value) : Prop := ∃ t, v = V t
theorem Vl.int {n : Int} {u : Tok} : Vl (.int n u) fun t => .int n t := ⟨u, rfl⟩
theorem Vl.str {n : Str} {u : Tok} : Vl (.str n u) fun t => .str n t := ⟨u, rfl⟩
theorem Vl.any {v : Value} : Vl v fun _ => v := ⟨0, rfl⟩
theorem Vl.of {V : Tok → Value} {t : Tok} : Vl (V t) V := ⟨t, rfl⟩
noncomputable def Ev (w : World) (D : Nat) (c : Cx) (cs : Scope) (mm : Locs) (news : Led) (e : PySem.Expr) (V : Tok → Value) : Prop :=
  Go w D c cs mm news (eval e (c.env cs)) fun v n' => n' = news ∧ Vl v V
noncomputable def Tst (w : World) (D : Nat) (c : Cx) (cs : Scope) (mm : Locs) (news : Led) (e : PySem.Expr) (b : Bool) : Prop :=
  ∀ e', e' = eval e (c.env cs) → Go w D c cs mm news (isTrue e (c.env cs) e') fun v n' => n' = news ∧ v = b
noncomputable def Cmp (w : World) (D : Nat) (c : Cx) (cs : Scope) (mm : Locs) (news : Led) (op : CmpOp) (V U : Tok → Value) (b : Bool) : Prop :=
  ∀ t u, Go w D c cs mm news (compareOp op (V t) (U u)) fun v n' => n' = news ∧ v = .bool b
noncomputable def app : List (Tok → Value) → (Nat → Tok) → List Value
  | [], _ => []
  | V :: r, τ => V (τ 0) :: app r fun n => τ (n + 1)
noncomputable def EvL (w : World) (D : Nat) (c : Cx) (cs : Scope) (mm : Locs) (news : Led) (pos : Pos) (es : List PySem.Expr) (Vs : List (Tok → Value)) : Prop :=
  Go w D c cs mm news (spliced (backTo pos (starEach es (c.env cs)))) fun vs n' => n' = news ∧ ∃ τ, vs = app Vs τ
/-- a block of statements: k of what it returns, kn where it falls off the end -/
noncomputable def Wb (w : World) (D : Nat) (c : Cx) (cs : Scope) (mm : Locs) (news : Led) (ss : List Stmt) (kn : Locs → Led → Prop) (k : Value → Led → Prop) : Prop :=
  Ok w D c cs → ∀ (s : Shared) (Q : Flow → Shared → Prop) (E : Value → Shared → Prop), Sta c mm news s.heap →
    (∀ mm' news' h' tk', Sta c mm' news' h' → kn mm' news' → Q .next { s with heap := h', toks := tk' }) →
    (∀ v news' h' tk', Sta c [] news' h' → k v news' → Q (.ret v) { s with heap := h', toks := tk' }) → wpAny (model pg w) (c.ar cs) (execs ss (c.env cs)) Q E s
section
variable {w : World} {D : Nat} {c : Cx} {cs : Scope} {mm : Locs} {news : Led}
theorem Sta.nil {c : Cx} {mm : Locs} {news : Led} {h : Heap} (S : Sta c mm news h) : Sta c [] news h := ⟨by
  obtain ⟨m, F, _⟩ := S.loc
  exact ⟨m, F, fun x V h => by cases h⟩, S.news⟩
theorem Go.mono {α : Type} {t : Sem α} {K K' : α → Led → Prop} (h : Go w D c cs mm news t K) (hk : ∀ v n', K v n' → K' v n') : Go w D c cs mm news t K' :=
  fun O s Q E S q => h O s Q E S fun v n' h' tk' S' kv => q v n' h' tk' S' (hk v n' kv)
theorem Go.pure' {α : Type} {x : α} {K : α → Led → Prop} (h : K x news) : Go w D c cs mm news (pure x) K :=
  fun _ s _ _ S q => wpAny_pure (q x news s.heap s.toks S h)
theorem Go.bind {α β : Type} {t : Sem α} {f : α → Sem β} {K : β → Led → Prop} (h : Go w D c cs mm news t fun v n' => Go w D c cs mm n' (f v) K) : Go w D c cs mm news (t >>= f) K :=
  fun O s Q E S q => wpAny_bind (h O s _ E S fun v n' h' tk' S' g => g O { s with heap := h', toks := tk' } Q E S' fun v2 n2 h2 t2 S2 kv => q v2 n2 h2 t2 S2 kv)
theorem Go.ev {e : PySem.Expr} {V : Tok → Value} {K : Value → Led → Prop} (h : Ev w D c cs mm news e V) (hk : ∀ t, K (V t) news) : Go w D c cs mm news (eval e (c.env cs)) K :=
  Go.mono h fun v n' ⟨hn, t, hv⟩ => by subst hn; subst hv; exact hk t
/-- a rule of the library in hand: the state is opened -/
theorem Go.raw {α : Type} {t : Sem α} {K : α → Led → Prop}
    (h : Ok w D c cs → ∀ (s : Shared) (Q : α → Shared → Prop) (E : Value → Shared → Prop) (m : Str → Option Value), Fr c.h₀ c.L s.heap m → (∀ x V, mm.lookup x = some V → ∃ t, m x = some (V t)) → News c.h₀ c.L s.heap news →
      (∀ v news' h' tk' m', Fr c.h₀ c.L h' m' → (∀ x V, mm.lookup x = some V → ∃ t, m' x = some (V t)) → News c.h₀ c.L h' news' → K v news' → Q v { s with heap := h', toks := tk' }) → wpAny (model pg w) (c.ar cs) t Q E s) : Go w D c cs mm news t K :=
  fun O s Q E S q => by
    obtain ⟨m, F, hm⟩ := S.loc
    exact h O s Q E m F hm S.news fun v n' h' tk' m' F' hm' N' kv => q v n' h' tk' ⟨⟨m', F', hm'⟩, N'⟩ kv
noncomputable def locOk (cs : Scope) (x : Str) : Bool := cs.names.lookup x == some .local && !(x == ("__debug__" : Str))
noncomputable def globOk (cs : Scope) (x : Str) : Bool := cs.names.lookup x == some .globalImplicit && !(x == ("__debug__" : Str))
theorem locOk_of {x : Str} (h : locOk cs x = true) : cs.names.lookup x = some .local ∧ (x == ("__debug__" : Str)) = false := by
  have := Bool.and_eq_true_iff.mp h
  exact ⟨beq_iff_eq.mp this.1, by simpa using this.2⟩
theorem globOk_of {x : Str} (h : globOk cs x = true) : cs.names.lookup x = some .globalImplicit ∧ (x == ("__debug__" : Str)) = false := by
  have := Bool.and_eq_true_iff.mp h
  exact ⟨beq_iff_eq.mp this.1, by simpa using this.2⟩
theorem Ev.loc {x : Str} {pos : Pos} {V : Tok → Value} (hl : mm.lookup x = some V) (ho : locOk cs x = true) : Ev w D c cs mm news (.Name x pos) V :=
  Go.raw fun O s Q E m F hm N q => by
    obtain ⟨t, ht⟩ := hm x V hl
    exact nameX_L F ht (q _ _ _ _ m F hm N ⟨rfl, t, rfl⟩) O.kind (locOk_of ho).1 (locOk_of ho).2
theorem Ev.glob {x : Str} {pos : Pos} {v : Value} {V : Tok → Value} (ho : globOk cs x = true) (hn : nsIn (KF w.params) mainGlobals x = some (some v)) (hv : Vl v V) : Ev w D c cs mm news (.Name x pos) V :=
  Go.raw fun O s Q E m F hm N q => nameX_K F O.X (topRead_of O.top) hn (q _ _ _ _ m F hm N ⟨rfl, hv⟩) O.kind (globOk_of ho).1 (globOk_of ho).2
theorem Ev.bltn {x : Str} {pos : Pos} {v : Value} {V : Tok → Value} (ho : globOk cs x = true) (hn : nsIn (KF w.params) mainGlobals x = some none) (hb : bootBuiltins x = some v) (hx : x ≠ "__name__") (hv : Vl v V) : Ev w D c cs mm news (.Name x pos) V :=
  Go.raw fun O s Q E m F hm N q => nameX_B F O.X (topRead_of O.top) hn hb hx (q _ _ _ _ m F hm N ⟨rfl, hv⟩) O.kind (globOk_of ho).1 (globOk_of ho).2
theorem Ev.int {i : Int} {k : Nat} {pos : Pos} : Ev w D c cs mm news (.Constant (.int i) k pos) fun t => .int i t :=
  Go.raw fun _ _ _ _ m F hm N q => wpAny_Constant_int (q _ _ _ _ m F hm N ⟨rfl, _, rfl⟩)
theorem Ev.str {i : Str} {k : Nat} {pos : Pos} : Ev w D c cs mm news (.Constant (.str i) k pos) fun t => .str i t :=
  Go.raw fun _ _ _ _ m F hm N q => wpAny_Constant_str (q _ _ _ _ m F hm N ⟨rfl, _, rfl⟩)
theorem Ev.none {k : Nat} {pos : Pos} : Ev w D c cs mm news (.Constant .none k pos) fun _ => .none :=
  Go.raw fun _ s _ _ m F hm N q => wpAny_Constant_none (q _ news s.heap s.toks m F hm N ⟨rfl, 0, rfl⟩)
theorem Ev.bool {b : Bool} {k : Nat} {pos : Pos} : Ev w D c cs mm news (.Constant (.bool b) k pos) fun _ => .bool b :=
  Go.raw fun _ s _ _ m F hm N q => wpAny_Constant_bool (q _ news s.heap s.toks m F hm N ⟨rfl, 0, rfl⟩)
theorem Ev.cast {e : PySem.Expr} {V U : Tok → Value} (h : Ev w D c cs mm news e V) (he : ∀ t, Vl (V t) U) : Ev w D c cs mm news e U :=
  Go.mono h fun v n' ⟨hn, t, hv⟩ => ⟨hn, by rw [hv]; exact he t⟩
theorem Ev.go {e : PySem.Expr} {V : Tok → Value} (h : Ev w D c cs mm news e V) (O : Ok w D c cs) {s : Shared} {E : Value → Shared → Prop} (S : Sta c mm news s.heap) {P : Value → Shared → Prop}
    (g : ∀ t h' tk', Sta c mm news h' → P (V t) { s with heap := h', toks := tk' }) : wpAny (model pg w) (c.ar cs) (eval e (c.env cs)) P E s :=
  h O s _ E S fun v n' h' tk' S' ⟨hn, t, hv⟩ => by
    subst hn; subst hv
    exact g t h' tk' S'
/-- opens the state -/
theorem Sta.open' {h : Heap} (S : Sta c mm news h) : ∃ m, Fr c.h₀ c.L h m ∧ (∀ x V, mm.lookup x = some V → ∃ t, m x = some (V t)) ∧ News c.h₀ c.L h news := by
  obtain ⟨m, F, hm⟩ := S.loc
  exact ⟨m, F, hm, S.news⟩
noncomputable def notSlice (e : PySem.Expr) : Bool := match e with | .Slice .. => false | _ => true
theorem subscripted_int {slice : PySem.Expr} {o : Value} {k : Int} {u : Tok} (h : notSlice slice = true) : subscripted slice false o (.int k u) = operate [o, .int k u] (getItem o (.int k u)) := by
  cases slice <;> first | rfl | cases h
theorem Ev.item {value slice : PySem.Expr} {pos : Pos} {a : Addr} {l : List Value} {k : Int} {j : Nat} {v : Value} {V : Tok → Value} (hv : Ev w D c cs mm news value fun _ => .ref a) (hs : Ev w D c cs mm news slice fun t => .int k t)
    (hm : (a, tp l) ∈ news) (hj : seqIndex? k l.length = some j) (hk : (decide (-(2 ^ 63) ≤ k) && decide (k < 2 ^ 63)) = true) (hx : l[j]? = some v) (hV : Vl v V) (hn : notSlice slice = true) : Ev w D c cs mm news (.Subscript value slice pos) V :=
  fun O s Q E S q => by
    refine Subscript_ (hv.go O S fun t h1 tk1 S1 => hs.go O S1 fun u h2 tk2 S2 => ?_)
    have h := Bool.and_eq_true_iff.mp hk
    exact item_tupleT ⟨_, (S2.news _ hm).1, rfl, 0, rfl⟩ (of_decide_eq_true h.1) (of_decide_eq_true h.2) hj hx (q _ news h2 tk2 S2 ⟨rfl, hV⟩) (subscripted_int hn)
theorem seqAt {k : Int} {n : Nat} (h0 : 0 ≤ k) (hl : k.toNat < n) : seqIndex? k n = some k.toNat := by
  unfold seqIndex?
  have h1 : ¬ k < 0 := by omega
  have h2 : k < (n : Int) := by omega
  simp only [h1, if_false, h0, h2, decide_true, Bool.and_self, if_true]
/-- an item of a tuple whose index is said by an equation -/
theorem Ev.itemE {value slice : PySem.Expr} {pos : Pos} {a : Addr} {l : List Value} {k : Int} {v : Value} {V : Tok → Value} (hv : Ev w D c cs mm news value fun _ => .ref a) (hs : Ev w D c cs mm news slice fun t => .int k t)
    (hm : (a, tp l) ∈ news) (h0 : 0 ≤ k) (h1 : k < 2 ^ 63) (hx : l[k.toNat]? = some v) (hV : Vl v V) (hn : notSlice slice = true) : Ev w D c cs mm news (.Subscript value slice pos) V :=
  fun O s Q E S q => by
    refine Subscript_ (hv.go O S fun t g1 tk1 S1 => hs.go O S1 fun u g2 tk2 S2 => ?_)
    exact item_tupleT ⟨_, (S2.news _ hm).1, rfl, 0, rfl⟩ (Int.le_trans (by decide) h0) h1 (seqAt h0 (List.getElem?_eq_some_iff.mp hx).1) hx (q _ news g2 tk2 S2 ⟨rfl, hV⟩) (subscripted_int hn)
/-- an item of a list of the ledger -/
theorem Ev.itemV {value slice : PySem.Expr} {pos : Pos} {a : Addr} {l : List Value} {n : Nat} {k : Int} {v : Value} {V : Tok → Value} (hv : Ev w D c cs mm news value fun _ => .ref a) (hs : Ev w D c cs mm news slice fun t => .int k t)
    (hm : (a, listOf l.toArray n) ∈ news) (h0 : 0 ≤ k) (h1 : k < 2 ^ 63) (hx : l[k.toNat]? = some v) (hV : Vl v V) (hn : notSlice slice = true) : Ev w D c cs mm news (.Subscript value slice pos) V :=
  fun O s Q E S q => by
    refine Subscript_ (hv.go O S fun t g1 tk1 S1 => hs.go O S1 fun u g2 tk2 S2 => ?_)
    exact item_news S2.news hm h0 h1 hx (q _ news g2 tk2 S2 ⟨rfl, hV⟩) (subscripted_int hn)
noncomputable def notCall (e : PySem.Expr) : Bool := match e with | .Call _ [] _ _ => false | _ => true
theorem base_eq {o : PySem.Expr} {nm : Str} {env : Env} {x : Sem Value} (h : notCall o = true) : attributeBase o nm env x = x := by
  cases o with
  | Call f as ks p => cases as with
    | nil => cases h
    | cons x r => cases f <;> rfl
  | _ => rfl
theorem attr_eq {value : PySem.Expr} {attr : Str} {pos : Pos} {env : Env} (h : notCall value = true) : eval (.Attribute value attr pos) env = (do
      let o ← eval value env
      standAt pos.atName
      let r ← holding [o] (getAttr o attr true)
      letTemporaryGo value o r
      pure r) :=
  congrArg (fun x => do
    let o ← x
    standAt pos.atName
    let r ← holding [o] (getAttr o attr true)
    letTemporaryGo value o r
    pure r) (base_eq (nm := attr) (env := env) (x := eval value env) h)
noncomputable def attrOk (K : Frag) (C : Addr) (name : Str) : Bool := plainGet K C name && hasDictIn K C && (match findIn K (.ref C) name with | some at' => noGet K at' | none => false)
theorem Ev.attr {value : PySem.Expr} {pos : Pos} {x dx C : Addr} {es : List DictEntry} {n : Nat} {name : Str} {v : Value} {V : Tok → Value} (hv : Ev w D c cs mm news value fun _ => .ref x) (hi : (x, instObj C dx) ∈ news) (hd : (dx, dictOf es n) ∈ news)
    (hg : getL name es = some (some v)) (hV : Vl v V) (ho : attrOk (KF w.params) C name = true) (hh : handedIn v = true) (hc : notCall value = true) : Ev w D c cs mm news (.Attribute value name pos) V :=
  fun O s Q E S q => by
    refine Attribute_any_ (hv.go O S fun t h1 tk1 S1 => ?_) (attr_eq hc)
    obtain ⟨m, F, hm, N⟩ := S1.open'
    unfold attrOk at ho
    have o := Bool.and_eq_true_iff.mp ho
    have o' := Bool.and_eq_true_iff.mp o.1
    cases hf : findIn (KF w.params) (.ref C) name with
    | none => rw [hf] at o; cases o.2
    | some at' =>
      rw [hf] at o
      exact get_own F O.X (InstAt.of_news N hi hd) o'.1 o'.2 hf o.2 hg hh (q _ news h1 _ S1 ⟨rfl, hV⟩)
end
section
variable {w : World} {D : Nat} {c : Cx} {cs : Scope} {mm : Locs} {news : Led}
/-- a binary operation of plain values -/
theorem Ev.bin {op : Operator} {l r : PySem.Expr} {pos : Pos} {V U W : Tok → Value} (hl : Ev w D c cs mm news l V) (hr : Ev w D c cs mm news r U)
    (hb : ∀ t u, Go w D c cs mm news (binaryOp op (V t) (U u)) fun v n' => n' = news ∧ Vl v W) : Ev w D c cs mm news (.BinOp l op r pos) W :=
  fun O s Q E S q => wpAny_BinOp (hl.go O S fun t h1 tk1 S1 => hr.go O S1 fun u h2 tk2 S2 => hb t u O { s with heap := h2, toks := tk2 } Q E S2 fun v n' h' tk' S' kv => q v n' h' tk' S' kv)
theorem Ev.add {l r : PySem.Expr} {pos : Pos} {a b : Int} (hl : Ev w D c cs mm news l fun t => .int a t) (hr : Ev w D c cs mm news r fun t => .int b t) : Ev w D c cs mm news (.BinOp l .Add r pos) fun t => .int (a + b) t :=
  hl.bin hr fun _ _ => Go.raw fun _ _ _ _ m F hm N q => add_int (q _ _ _ _ m F hm N ⟨rfl, .int⟩)
theorem Ev.sub {l r : PySem.Expr} {pos : Pos} {a b : Int} (hl : Ev w D c cs mm news l fun t => .int a t) (hr : Ev w D c cs mm news r fun t => .int b t) : Ev w D c cs mm news (.BinOp l .Sub r pos) fun t => .int (a - b) t :=
  hl.bin hr fun _ _ => Go.raw fun _ _ _ _ m F hm N q => sub_int (q _ _ _ _ m F hm N ⟨rfl, .int⟩)
theorem Ev.mul {l r : PySem.Expr} {pos : Pos} {a b : Int} (hl : Ev w D c cs mm news l fun t => .int a t) (hr : Ev w D c cs mm news r fun t => .int b t) (hok : IntMulOk a b) : Ev w D c cs mm news (.BinOp l .Mult r pos) fun t => .int (a * b) t :=
  hl.bin hr fun _ _ => Go.raw fun _ _ _ _ m F hm N q => PySem.P.mul_int (q _ _ _ _ m F hm N ⟨rfl, .int⟩) hok
theorem Ev.mod {l r : PySem.Expr} {pos : Pos} {a b : Int} (hl : Ev w D c cs mm news l fun t => .int a t) (hr : Ev w D c cs mm news r fun t => .int b t) (h0 : b ≠ 0) : Ev w D c cs mm news (.BinOp l .Mod r pos) fun t => .int (a.fmod b) t :=
  hl.bin hr fun _ _ => Go.raw fun _ _ _ _ m F hm N q => mod_int h0 (q _ _ _ _ m F hm N ⟨rfl, .int⟩)
theorem Cmp.eq {a b : Int} : Cmp w D c cs mm news .Eq (fun t => .int a t) (fun t => .int b t) (decide (a = b)) :=
  fun _ _ => Go.raw fun _ s _ _ m F hm N q => PyProof.Rows.eq_int (q _ news s.heap s.toks m F hm N ⟨rfl, rfl⟩)
theorem Cmp.ne {a b : Int} : Cmp w D c cs mm news .NotEq (fun t => .int a t) (fun t => .int b t) (decide (a ≠ b)) :=
  fun _ _ => Go.raw fun _ s _ _ m F hm N q => PyProof.Rows.ne_int (q _ news s.heap s.toks m F hm N ⟨rfl, by rw [show (a != b) = decide (a ≠ b) from by by_cases h : a = b <;> simp [h]]⟩)
theorem Cmp.lt {a b : Int} : Cmp w D c cs mm news .Lt (fun t => .int a t) (fun t => .int b t) (decide (a < b)) :=
  fun _ _ => Go.raw fun _ s _ _ m F hm N q => PyProof.Rows.lt_int (q _ news s.heap s.toks m F hm N ⟨rfl, rfl⟩)
theorem Cmp.gt {a b : Int} : Cmp w D c cs mm news .Gt (fun t => .int a t) (fun t => .int b t) (decide (b < a)) :=
  fun _ _ => Go.raw fun _ s _ _ m F hm N q => PyProof.Rows.gt_int (q _ news s.heap s.toks m F hm N ⟨rfl, rfl⟩)
theorem Cmp.le {a b : Int} : Cmp w D c cs mm news .LtE (fun t => .int a t) (fun t => .int b t) (decide (a ≤ b)) :=
  fun _ _ => Go.raw fun _ s _ _ m F hm N q => PySem.P.le_int (q _ news s.heap s.toks m F hm N ⟨rfl, rfl⟩)
theorem Cmp.ge {a b : Int} : Cmp w D c cs mm news .GtE (fun t => .int a t) (fun t => .int b t) (decide (b ≤ a)) :=
  fun _ _ => Go.raw fun _ s _ _ m F hm N q => PySem.P.ge_int (q _ news s.heap s.toks m F hm N ⟨rfl, rfl⟩)
theorem isNot_none {M : Model} {A : Around} {E : Value → Shared → Prop} {s : Shared} {v : Value} {Q : Value → Shared → Prop} (h : Q (.bool (!(v == .none))) s) : wpAny M A (compareOp .IsNot v .none) Q E s := by
  show wpAny M A (do return .bool (!(← isSame v .none))) Q E s
  rw [isSame_none]
  exact wpAny_bind (wpAny_pure (wpAny_pure h))
theorem Cmp.is {V : Tok → Value} {b : Bool} (hb : ∀ t, (V t == .none) = b) : Cmp w D c cs mm news .Is V (fun _ => .none) b :=
  fun t _ => Go.raw fun _ s _ _ m F hm N q => is_none (q _ news s.heap s.toks m F hm N ⟨rfl, by rw [hb t]⟩)
theorem Cmp.isn {V : Tok → Value} {b : Bool} (hb : ∀ t, (V t == .none) = b) : Cmp w D c cs mm news .IsNot V (fun _ => .none) (!b) :=
  fun t _ => Go.raw fun _ s _ _ m F hm N q => isNot_none (q _ news s.heap s.toks m F hm N ⟨rfl, by rw [hb t]⟩)
theorem Cmp.isR {a : Addr} : Cmp w D c cs mm news .Is (fun _ => .ref a) (fun _ => .none) false := Cmp.is fun _ => rfl
theorem Cmp.isnR {a : Addr} : Cmp w D c cs mm news .IsNot (fun _ => .ref a) (fun _ => .none) true := Cmp.isn (b := false) fun _ => rfl
theorem Cmp.isI {a : Int} : Cmp w D c cs mm news .Is (fun t => .int a t) (fun _ => .none) false := Cmp.is fun _ => rfl
theorem Cmp.isN : Cmp w D c cs mm news .Is (fun _ => .none) (fun _ => .none) true := Cmp.is fun _ => rfl
noncomputable def behOk (op : CmpOp) (r : PySem.Expr) : Bool := !behindInMarks op r
theorem behOk_of {op : CmpOp} {r : PySem.Expr} (h : behOk op r = true) : behindInMarks op r = false := by simpa [behOk] using h
theorem Ev.cmp {op : CmpOp} {l r : PySem.Expr} {pos : Pos} {V U : Tok → Value} {b : Bool} (hl : Ev w D c cs mm news l V) (hr : Ev w D c cs mm news r U) (hb : Cmp w D c cs mm news op V U b) (hm : behOk op r = true) :
    Ev w D c cs mm news (.Compare l [op] [r] pos) fun _ => .bool b :=
  fun O s Q E S q => wpAny_Compare1 (hl.go O S fun t h1 tk1 S1 => hr.go O S1 fun u h2 tk2 S2 => hb t u O { s with heap := h2, toks := tk2 } Q E S2 fun v n' h' tk' S' ⟨e1, e2⟩ => q v n' h' tk' S' ⟨e1, 0, e2⟩) (behOk_of hm)
theorem Tst.cmp {op : CmpOp} {l r : PySem.Expr} {pos : Pos} {V U : Tok → Value} {b : Bool} (hl : Ev w D c cs mm news l V) (hr : Ev w D c cs mm news r U) (hb : Cmp w D c cs mm news op V U b) (hm : behOk op r = true) :
    Tst w D c cs mm news (.Compare l [op] [r] pos) b :=
  fun e' _ O s Q E S q => wpAny_isTrue_Compare1 (hl.go O S fun t h1 tk1 S1 => hr.go O S1 fun u h2 tk2 S2 => hb t u O { s with heap := h2, toks := tk2 } _ E S2 fun v n' h' tk' S' ⟨e1, e2⟩ => by
    subst e1; subst e2
    exact wpAny_truthy_bool (q b _ h' tk' S' ⟨rfl, rfl⟩)) (behOk_of hm)
/-- a chain of two compares -/
noncomputable def chOk (o1 o2 : CmpOp) (r1 r2 : PySem.Expr) : Bool := !lastMarks [o1, o2] [r1, r2]
theorem Tst.chain {o1 o2 : CmpOp} {l r1 r2 : PySem.Expr} {pos : Pos} {V U W : Tok → Value} {b1 b2 : Bool} (hl : Ev w D c cs mm news l V) (h1 : Ev w D c cs mm news r1 U) (hb1 : Cmp w D c cs mm news o1 V U b1)
    (h2 : b1 = true → Ev w D c cs mm news r2 W ∧ Cmp w D c cs mm news o2 U W b2) (hm : chOk o1 o2 r1 r2 = true) : Tst w D c cs mm news (.Compare l [o1, o2] [r1, r2] pos) (b1 && b2) :=
  fun e' _ O s Q E S q => isTrue_chain (hl.go O S fun t g1 tk1 S1 => test_link (h1.go O S1 fun u g2 tk2 S2 => hb1 t u O { s with heap := g2, toks := tk2 } _ E S2 fun v n' h' tk' S' ⟨e1, e2⟩ => by
    subst e1; subst e2
    refine wpAny_truthy_bool ?_
    cases b1 with
    | false => exact q false _ h' tk' S' ⟨rfl, rfl⟩
    | true =>
      obtain ⟨x1, x2⟩ := h2 rfl
      exact test_last (x1.go O S' fun y g3 tk3 S3 => x2 u y O { s with heap := g3, toks := tk3 } _ E S3 fun v n2 h4 tk4 S4 ⟨e1, e2⟩ => by
        subst e1; subst e2
        exact wpAny_truthy_bool (q b2 _ h4 tk4 S4 ⟨rfl, by simp⟩)))) (by simpa [chOk] using hm)
theorem Tst.not {x : PySem.Expr} {pos : Pos} {b : Bool} (h : Tst w D c cs mm news x b) : Tst w D c cs mm news (.UnaryOp .Not x pos) (!b) :=
  fun _ _ O s Q E S q => isTrue_not (h _ rfl O s _ E S fun v n' h' tk' S' ⟨e1, e2⟩ => q _ n' h' tk' S' ⟨e1, by rw [e2]⟩)
theorem Tst.and0 {pos : Pos} : Tst w D c cs mm news (.BoolOp .And [] pos) true := fun _ _ _ s _ _ S q => isTrue_and_nil (q _ news s.heap s.toks S ⟨rfl, rfl⟩)
theorem Tst.or0 {pos : Pos} : Tst w D c cs mm news (.BoolOp .Or [] pos) false := fun _ _ _ s _ _ S q => isTrue_or_nil (q _ news s.heap s.toks S ⟨rfl, rfl⟩)
theorem Tst.and {x : PySem.Expr} {rest : List PySem.Expr} {pos : Pos} {a b : Bool} (h : Tst w D c cs mm news x a) (g : a = true → Tst w D c cs mm news (.BoolOp .And rest pos) b) : Tst w D c cs mm news (.BoolOp .And (x :: rest) pos) (a && b) :=
  fun e' _ O s Q E S q => isTrue_and (h _ rfl O s _ E S fun v n' h' tk' S' ⟨e1, e2⟩ => by
    subst e1; subst e2
    cases v with
    | false => exact q _ _ h' tk' S' ⟨rfl, rfl⟩
    | true => exact g rfl _ rfl O { s with heap := h', toks := tk' } Q E S' fun v n' h' tk' S' ⟨e1, e2⟩ => q v n' h' tk' S' ⟨e1, by rw [e2]; rfl⟩)
theorem Tst.or {x : PySem.Expr} {rest : List PySem.Expr} {pos : Pos} {a b : Bool} (h : Tst w D c cs mm news x a) (g : a = false → Tst w D c cs mm news (.BoolOp .Or rest pos) b) : Tst w D c cs mm news (.BoolOp .Or (x :: rest) pos) (a || b) :=
  fun e' _ O s Q E S q => isTrue_or (h _ rfl O s _ E S fun v n' h' tk' S' ⟨e1, e2⟩ => by
    subst e1; subst e2
    cases v with
    | true => exact q _ _ h' tk' S' ⟨rfl, rfl⟩
    | false => exact g rfl _ rfl O { s with heap := h', toks := tk' } Q E S' fun v n' h' tk' S' ⟨e1, e2⟩ => q v n' h' tk' S' ⟨e1, by rw [e2]; rfl⟩)
theorem Tst.andF {x : PySem.Expr} {rest : List PySem.Expr} {pos : Pos} {a : Bool} (h : Tst w D c cs mm news x a) (ha : a = false) : Tst w D c cs mm news (.BoolOp .And (x :: rest) pos) false :=
  fun e' _ O s Q E S q => isTrue_and (h _ rfl O s _ E S fun v n' h' tk' S' ⟨e1, e2⟩ => by
    subst e1; subst e2; subst ha
    exact q _ _ h' tk' S' ⟨rfl, rfl⟩)
theorem Tst.andT {x : PySem.Expr} {rest : List PySem.Expr} {pos : Pos} {a b : Bool} (h : Tst w D c cs mm news x a) (ha : a = true) (g : Tst w D c cs mm news (.BoolOp .And rest pos) b) : Tst w D c cs mm news (.BoolOp .And (x :: rest) pos) b :=
  fun e' e O s Q E S q => Tst.and h (fun _ => g) e' e O s Q E S fun v n' h' tk' S' ⟨e1, e2⟩ => q v n' h' tk' S' ⟨e1, by rw [e2, ha]; rfl⟩
theorem Tst.orT {x : PySem.Expr} {rest : List PySem.Expr} {pos : Pos} {a : Bool} (h : Tst w D c cs mm news x a) (ha : a = true) : Tst w D c cs mm news (.BoolOp .Or (x :: rest) pos) true :=
  fun e' _ O s Q E S q => isTrue_or (h _ rfl O s _ E S fun v n' h' tk' S' ⟨e1, e2⟩ => by
    subst e1; subst e2; subst ha
    exact q _ _ h' tk' S' ⟨rfl, rfl⟩)
theorem Tst.orF {x : PySem.Expr} {rest : List PySem.Expr} {pos : Pos} {a b : Bool} (h : Tst w D c cs mm news x a) (ha : a = false) (g : Tst w D c cs mm news (.BoolOp .Or rest pos) b) : Tst w D c cs mm news (.BoolOp .Or (x :: rest) pos) b :=
  fun e' e O s Q E S q => Tst.or h (fun _ => g) e' e O s Q E S fun v n' h' tk' S' ⟨e1, e2⟩ => q v n' h' tk' S' ⟨e1, by rw [e2, ha]; rfl⟩
theorem Tst.cast {e : PySem.Expr} {a b : Bool} (h : Tst w D c cs mm news e a) (he : a = b) : Tst w D c cs mm news e b := he ▸ h
noncomputable def plainTst (e : PySem.Expr) : Bool := match e with | .UnaryOp .. => false | .BoolOp .. => false | .IfExp .. => false | .Compare .. => false | _ => true
theorem plainTst_of {e : PySem.Expr} {env : Env} {whole : Sem Value} (h : plainTst e = true) : isTrue e env whole = (do let v ← whole; standAt e.pos; holding [v] (truthy v)) := by
  cases e <;> first | rfl | cases h
theorem Tst.val {e : PySem.Expr} {V : Tok → Value} {b : Bool} (h : Ev w D c cs mm news e V) (ht : ∀ t, Go w D c cs mm news (truthy (V t)) fun v n' => n' = news ∧ v = b) (hp : plainTst e = true) : Tst w D c cs mm news e b :=
  fun e' he O s Q E S q => by
    subst he
    exact isTrue_plain (h.go O S fun t h1 tk1 S1 => ht t O { s with heap := h1, toks := tk1 } Q E S1 fun v n' h' tk' S' kv => q v n' h' tk' S' kv) (plainTst_of hp)
theorem Tst.bool {e : PySem.Expr} {b : Bool} (h : Ev w D c cs mm news e fun _ => .bool b) (hp : plainTst e = true) : Tst w D c cs mm news e b :=
  Tst.val h (fun _ => Go.raw fun _ s _ _ m F hm N q => wpAny_truthy_bool (q _ news s.heap s.toks m F hm N ⟨rfl, rfl⟩)) hp
theorem Tst.int {e : PySem.Expr} {a : Int} (h : Ev w D c cs mm news e fun t => .int a t) (hp : plainTst e = true) : Tst w D c cs mm news e (decide (a ≠ 0)) :=
  Tst.val h (fun _ => Go.raw fun _ s _ _ m F hm N q => PyProof.Rows.truthy_int (q _ news s.heap s.toks m F hm N ⟨rfl, by rw [show (a != 0) = decide (a ≠ 0) from by by_cases h : a = 0 <;> simp [h]]⟩)) hp
theorem Ev.tern {test body orelse : PySem.Expr} {pos : Pos} {b : Bool} {V : Tok → Value} (h : Tst w D c cs mm news test b) (h1 : b = true → Ev w D c cs mm news body V) (h2 : b = false → Ev w D c cs mm news orelse V) :
    Ev w D c cs mm news (.IfExp test body orelse pos) V :=
  fun O s Q E S q => wpAny_IfExp (h _ rfl O s _ E S fun v n' h' tk' S' ⟨e1, e2⟩ => by
    subst e1; subst e2
    cases v with
    | true => exact h1 rfl O { s with heap := h', toks := tk' } Q E S' fun v n' h' tk' S' kv => q v n' h' tk' S' kv
    | false => exact h2 rfl O { s with heap := h', toks := tk' } Q E S' fun v n' h' tk' S' kv => q v n' h' tk' S' kv)
theorem EvL.nil {pos : Pos} : EvL w D c cs mm news pos [] [] := Go.raw fun _ s _ _ m F hm N q => args_nil (q _ news s.heap s.toks m F hm N ⟨rfl, fun _ => 0, rfl⟩)
noncomputable def notStar (e : PySem.Expr) : Bool := match e with | .Starred .. => false | _ => true
theorem notStar_of {e : PySem.Expr} {rest : List PySem.Expr} {env : Env} (h : notStar e = true) : starEach (e :: rest) env = (false, eval e env) :: starEach rest env := by
  cases e <;> first | rfl | cases h
theorem EvL.cons {pos : Pos} {e : PySem.Expr} {rest : List PySem.Expr} {V : Tok → Value} {Vs : List (Tok → Value)} (h : Ev w D c cs mm news e V) (g : EvL w D c cs mm news pos rest Vs) (hs : notStar e = true) : EvL w D c cs mm news pos (e :: rest) (V :: Vs) :=
  fun O s Q E S q => args_cons (h.go O S fun t h1 tk1 S1 => g O { s with heap := h1, toks := tk1 } _ E S1 fun vs n' h' tk' S' ⟨e1, τ, e2⟩ => q _ n' h' tk' S' ⟨e1, fun n => match n with | 0 => t | n + 1 => τ n, by subst e2; rfl⟩) (notStar_of hs)
noncomputable def noStars (es : List PySem.Expr) : Bool := es.all notStar
theorem noStars_of {pos : Pos} {es : List PySem.Expr} {env : Env} (h : noStars es = true) : (backTo pos (starEach es env)).any (·.1) = false := by
  induction es with
  | nil => rfl
  | cons e r ih =>
    have := Bool.and_eq_true_iff.mp h
    rw [notStar_of this.1]
    show (false || (backTo pos (starEach r env)).any (·.1)) = false
    rw [ih this.2]; rfl
/-- a contract called with values in hand -/
theorem Go.ctr {d : Nat} {f : Addr} {vs : List Value} {pre : Led → Prop} {T : Led → (Value → Led → Prop) → Prop} {K : Value → Led → Prop} (C : CC w d f vs pre T) (hd : d ≤ D) (hp : pre news)
    (hm : ∀ k k' : Value → Led → Prop, (∀ v n, k v n → k' v n) → T news k → T news k') (h : T news K) : Go w D c cs mm news (call (.ref f) vs) K :=
  fun O s Q E S q => by
    obtain ⟨m, F, hmm, N⟩ := S.open'
    refine cc_use C O.below F O.X N O.top O.kind (by have := O.rd; omega) (by have := O.ru; omega) hp (hm _ _ (fun v n kv => ?_) h)
    exact fun h' tk' F' N' => q v n h' tk' ⟨⟨m, F', hmm⟩, N'⟩ kv
/-- a def of the program, by its name, with arguments that turn nothing -/
theorem Go.call {x : Str} {np pos : Pos} {e : PySem.Expr} {rest : List PySem.Expr} {f : Addr} {Vs : List (Tok → Value)} {d : Nat} {pre : Led → Prop} {T : Led → (Value → Led → Prop) → Prop} {K : Value → Led → Prop}
    (ho : globOk cs x = true) (hn : nsIn (KF w.params) mainGlobals x = some (some (.ref f))) (hk : keepIn (KF w.params) (.ref f) = true) (ha : EvL w D c cs mm news pos (e :: rest) Vs) (C : ∀ τ, CC w d f (app Vs τ) pre T) (hs : noStars (e :: rest) = true) (hd : d ≤ D)
    (hp : pre news) (hm : ∀ k k' : Value → Led → Prop, (∀ v n, k v n → k' v n) → T news k → T news k') (h : T news K) : Go w D c cs mm news (eval (.Call (.Name x np) (e :: rest) [] pos) (c.env cs)) K :=
  fun O s Q E S q => by
    have h' := Bool.and_eq_true_iff.mp hs
    refine Call_ ((Ev.glob ho hn Vl.any).go O S fun _ h1 tk1 S1 => ?_)
    refine callWith_K (first := []) O.X hk (ha O { s with heap := h1, toks := tk1 } _ E S1 fun vs n' h2 tk2 S2 ⟨e1, τ, e2⟩ => ?_) (notStar_of h'.1) (noStars_of h'.2)
    subst e1; subst e2
    obtain ⟨m, F, hmm, N⟩ := S2.open'
    exact ⟨O.X.keeps F.keep, (Go.ctr (C τ) hd hp hm h) O { s with heap := h2, toks := tk2 } Q E S2 fun v n' h' tk' S' kv => q v n' h' tk' S' kv⟩
theorem Ev.call {x : Str} {np pos : Pos} {e : PySem.Expr} {rest : List PySem.Expr} {f : Addr} {Vs : List (Tok → Value)} {d : Nat} {pre : Led → Prop} {R : Tok → Value}
    (ho : globOk cs x = true) (hn : nsIn (KF w.params) mainGlobals x = some (some (.ref f))) (hk : keepIn (KF w.params) (.ref f) = true) (ha : EvL w D c cs mm news pos (e :: rest) Vs) (C : ∀ τ, CP w d f (app Vs τ) pre R) (hs : noStars (e :: rest) = true) (hd : d ≤ D)
    (hp : pre news) : Ev w D c cs mm news (.Call (.Name x np) (e :: rest) [] pos) R :=
  Go.call ho hn hk ha C hs hd hp (fun _ _ hk hT t => hk _ _ (hT t)) fun t => ⟨rfl, t, rfl⟩
end
section
variable {w : World} {D : Nat} {c : Cx} {cs : Scope} {mm : Locs} {news : Led}
theorem Sta.set {h' : Heap} {x : Str} {V : Tok → Value} {t : Tok} {m : Str → Option Value} (hmm : ∀ x V, mm.lookup x = some V → ∃ t, m x = some (V t))
    (F : Fr c.h₀ c.L h' (fun y => if y = x then some (V t) else m y)) (N : News c.h₀ c.L h' news) : Sta c ((x, V) :: mm) news h' :=
  ⟨⟨_, F, fun y W hl => by
    rw [List.lookup_cons] at hl
    by_cases e : y = x
    · rw [if_pos e]
      simp only [e, BEq.rfl, Option.some.injEq] at hl
      exact ⟨t, by rw [hl]⟩
    · rw [if_neg e]
      have : (y == x) = false := by simpa using e
      simp only [this] at hl
      exact hmm y W hl⟩, N⟩
theorem Wb.nil {kn : Locs → Led → Prop} {k : Value → Led → Prop} (h : kn mm news) : Wb w D c cs mm news [] kn k := fun _ s _ _ S qn _ => wpAny_execs_nil (qn mm news s.heap s.toks S h)
/-- one statement, then the others -/
theorem Wb.cons {st : Stmt} {rest : List Stmt} {kn : Locs → Led → Prop} {k : Value → Led → Prop}
    (h : Ok w D c cs → ∀ (s : Shared) (Q : Flow → Shared → Prop) (E : Value → Shared → Prop), Sta c mm news s.heap →
      (∀ mm' news' h' tk', Sta c mm' news' h' → Wb w D c cs mm' news' rest kn k → Q .next { s with heap := h', toks := tk' }) →
      (∀ v news' h' tk', Sta c [] news' h' → k v news' → Q (.ret v) { s with heap := h', toks := tk' }) → wpAny (model pg w) (c.ar cs) (exec st (c.env cs)) Q E s) :
    Wb w D c cs mm news (st :: rest) kn k :=
  fun O s Q E S qn qr => wpAny_execs_cons (h O s _ E S (fun mm' n' h' tk' S' g => g O { s with heap := h', toks := tk' } Q E S' (fun mm' n' h' tk' S' kv => qn mm' n' h' tk' S' kv) (fun v n' h' tk' S' kv => qr v n' h' tk' S' kv))
    (fun v n' h' tk' S' kv => qr v n' h' tk' S' kv))
theorem Wb.assignG {x : Str} {px pos : Pos} {value : PySem.Expr} {rest : List Stmt} {kn : Locs → Led → Prop} {k : Value → Led → Prop}
    (h : Go w D c cs mm news (eval value (c.env cs)) fun v n' => ∃ V, Vl v V ∧ Wb w D c cs ((x, V) :: mm) n' rest kn k) (ho : locOk cs x = true)
    (hs : swapsWith value (some (.Name x px)) pos.line (c.env cs) = pure false) : Wb w D c cs mm news (.Assign [.Name x px] value pos :: rest) kn k :=
  Wb.cons fun O s Q E S qn _ => wpAny_Assign_Name (h O s _ E S fun v n' h1 tk1 S1 ⟨V, ⟨t, hv⟩, g⟩ => by
    obtain ⟨m, F, hmm, N⟩ := S1.open'
    subst hv
    exact storeX_L F N (fun h' F' N' => qn _ n' h' _ (Sta.set hmm F' N') g) O.kind (locOk_of ho).1) hs
theorem Wb.assign {x : Str} {px pos : Pos} {value : PySem.Expr} {rest : List Stmt} {kn : Locs → Led → Prop} {k : Value → Led → Prop} {V : Tok → Value}
    (h : Ev w D c cs mm news value V) (ho : locOk cs x = true)
    (hs : swapsWith value (some (.Name x px)) pos.line (c.env cs) = pure false) (g : Wb w D c cs ((x, V) :: mm) news rest kn k) : Wb w D c cs mm news (.Assign [.Name x px] value pos :: rest) kn k :=
  Wb.assignG (Go.ev h fun _ => ⟨V, .of, g⟩) ho hs
theorem Wb.mono {ss : List Stmt} {kn kn' : Locs → Led → Prop} {k k' : Value → Led → Prop} (h : Wb w D c cs mm news ss kn k) (h1 : ∀ m n, kn m n → kn' m n) (h2 : ∀ v n, k v n → k' v n) : Wb w D c cs mm news ss kn' k' :=
  fun O s Q E S qn qr => h O s Q E S (fun mm' n' h' tk' S' kv => qn mm' n' h' tk' S' (h1 _ _ kv)) (fun v n' h' tk' S' kv => qr v n' h' tk' S' (h2 _ _ kv))
/-- a test with two ways -/
theorem Wb.iff {test : PySem.Expr} {body orelse rest : List Stmt} {pos : Pos} {b : Bool} {kn : Locs → Led → Prop} {k : Value → Led → Prop} (h : Tst w D c cs mm news test b)
    (h1 : b = true → Wb w D c cs mm news body (fun mm' n' => Wb w D c cs mm' n' rest kn k) k) (h2 : b = false → Wb w D c cs mm news orelse (fun mm' n' => Wb w D c cs mm' n' rest kn k) k) :
    Wb w D c cs mm news (.If test body orelse pos :: rest) kn k :=
  Wb.cons fun O s Q E S qn qr => wpAny_If (h _ rfl O s _ E S fun v n' h' tk' S' ⟨e1, e2⟩ => by
    subst e1; subst e2
    cases v with
    | true => exact h1 rfl O { s with heap := h', toks := tk' } Q E S' (fun mm' n' h' tk' S' kv => qn mm' n' h' tk' S' kv) (fun v n' h' tk' S' kv => qr v n' h' tk' S' kv)
    | false => exact h2 rfl O { s with heap := h', toks := tk' } Q E S' (fun mm' n' h' tk' S' kv => qn mm' n' h' tk' S' kv) (fun v n' h' tk' S' kv => qr v n' h' tk' S' kv))
theorem Wb.ifT {test : PySem.Expr} {body orelse rest : List Stmt} {pos : Pos} {b : Bool} {kn : Locs → Led → Prop} {k : Value → Led → Prop} (h : Tst w D c cs mm news test b) (hb : b = true)
    (h1 : Wb w D c cs mm news body (fun mm' n' => Wb w D c cs mm' n' rest kn k) k) : Wb w D c cs mm news (.If test body orelse pos :: rest) kn k :=
  Wb.iff h (fun _ => h1) fun e => absurd (hb.symm.trans e) (by decide)
theorem Wb.ifF {test : PySem.Expr} {body orelse rest : List Stmt} {pos : Pos} {b : Bool} {kn : Locs → Led → Prop} {k : Value → Led → Prop} (h : Tst w D c cs mm news test b) (hb : b = false)
    (h1 : Wb w D c cs mm news orelse (fun mm' n' => Wb w D c cs mm' n' rest kn k) k) : Wb w D c cs mm news (.If test body orelse pos :: rest) kn k :=
  Wb.iff h (fun e => absurd (e.symm.trans hb) (by decide)) fun _ => h1
theorem Wb.ifF0 {test : PySem.Expr} {body rest : List Stmt} {pos : Pos} {b : Bool} {kn : Locs → Led → Prop} {k : Value → Led → Prop} (h : Tst w D c cs mm news test b) (hb : b = false)
    (h1 : Wb w D c cs mm news rest kn k) : Wb w D c cs mm news (.If test body [] pos :: rest) kn k := Wb.ifF h hb (Wb.nil h1)
/-- a test with two ways, the second of which goes on behind -/
theorem Wb.if0 {test : PySem.Expr} {body rest : List Stmt} {pos : Pos} {b : Bool} {kn : Locs → Led → Prop} {k : Value → Led → Prop} (h : Tst w D c cs mm news test b)
    (h1 : b = true → Wb w D c cs mm news body (fun mm' n' => Wb w D c cs mm' n' rest kn k) k) (h2 : b = false → Wb w D c cs mm news rest kn k) :
    Wb w D c cs mm news (.If test body [] pos :: rest) kn k := Wb.iff h h1 fun e => Wb.nil (h2 e)
/-- the ways of a test meet: J -/
theorem Wb.ifJ {test : PySem.Expr} {body orelse rest : List Stmt} {pos : Pos} {b : Bool} {kn : Locs → Led → Prop} {k : Value → Led → Prop} (J : Locs → Led → Prop) (h : Tst w D c cs mm news test b)
    (h1 : b = true → Wb w D c cs mm news body J k) (h2 : b = false → Wb w D c cs mm news orelse J k) (g : ∀ mm' n', J mm' n' → Wb w D c cs mm' n' rest kn k) :
    Wb w D c cs mm news (.If test body orelse pos :: rest) kn k := Wb.iff h (fun e => (h1 e).mono g fun _ _ x => x) fun e => (h2 e).mono g fun _ _ x => x
theorem Wb.retG {e : PySem.Expr} {pos : Pos} {rest : List Stmt} {kn : Locs → Led → Prop} {k : Value → Led → Prop} (h : Go w D c cs mm news (eval e (c.env cs)) k) : Wb w D c cs mm news (.Return (some e) pos :: rest) kn k :=
  Wb.cons fun O s Q E S _ qr => wpAny_Return_some (h O s _ E S fun v n' h' tk' S' kv => qr v n' h' tk' S'.nil kv)
theorem Wb.ret {e : PySem.Expr} {pos : Pos} {rest : List Stmt} {kn : Locs → Led → Prop} {k : Value → Led → Prop} {V : Tok → Value} (h : Ev w D c cs mm news e V) (hk : ∀ t, k (V t) news) : Wb w D c cs mm news (.Return (some e) pos :: rest) kn k :=
  Wb.retG (Go.ev h hk)
theorem Wb.retN {pos : Pos} {rest : List Stmt} {kn : Locs → Led → Prop} {k : Value → Led → Prop} (hk : k .none news) : Wb w D c cs mm news (.Return none pos :: rest) kn k :=
  Wb.cons fun _ s _ _ S _ qr => wpAny_Return_none (qr .none news s.heap s.toks S.nil hk)
/-- an expression that stands as a statement and gives no object -/
theorem Wb.expr {e : PySem.Expr} {pos : Pos} {rest : List Stmt} {kn : Locs → Led → Prop} {k : Value → Led → Prop} (h : Go w D c cs mm news (eval e (c.env cs)) fun v n' => (match v with | .ref _ => False | _ => True) ∧ Wb w D c cs mm n' rest kn k)
    (hi : interactive (c.env cs) = false) (hs : swapsWith e none pos.line (c.env cs) = pure false) : Wb w D c cs mm news (.Expr e pos :: rest) kn k :=
  Wb.cons fun O s Q E S qn _ => wpAny_Expr (h O s _ E S fun v n' h' tk' S' ⟨hv, g⟩ => by
    have z := qn mm n' h' tk' S' g
    cases v <;> first | exact z | exact hv) hi hs
/-- other names of what stands in the frame -/
theorem Wb.locs {mm' : Locs} {ss : List Stmt} {kn : Locs → Led → Prop} {k : Value → Led → Prop} (hm : ∀ x V, mm'.lookup x = some V → ∃ U, mm.lookup x = some U ∧ ∀ t, Vl (U t) V) (h : Wb w D c cs mm' news ss kn k) : Wb w D c cs mm news ss kn k :=
  fun O s Q E S qn qr => by
    obtain ⟨m, F, hmm, N⟩ := S.open'
    refine h O s Q E ⟨⟨m, F, fun x V e => ?_⟩, N⟩ qn qr
    obtain ⟨U, e1, e2⟩ := hm x V e
    obtain ⟨t, e3⟩ := hmm x U e1
    obtain ⟨t', e4⟩ := e2 t
    exact ⟨t', by rw [e3, e4]⟩
end
inductive VlB : List (Str × Value) → Locs → Prop
  | nil : VlB [] []
  | cons {x : Str} {v : Value} {V : Tok → Value} {b : List (Str × Value)} {m : Locs} (h : Vl v V) (g : VlB b m) : VlB ((x, v) :: b) ((x, V) :: m)
theorem VlB.lookup {b : List (Str × Value)} {m : Locs} (h : VlB b m) {x : Str} {V : Tok → Value} (e : m.lookup x = some V) : ∃ t, b.lookup x = some (V t) := by
  induction h with
  | nil => cases e
  | @cons y v U b m h g ih =>
    rw [List.lookup_cons] at e ⊢
    cases q : x == y with
    | true =>
      rw [q] at e
      have := Option.some.inj e
      subst this
      obtain ⟨t, ht⟩ := h
      exact ⟨t, by rw [ht]⟩
    | false =>
      rw [q] at e
      exact ih e
theorem endI {k : Value → Led → Prop} {news : Led} {a b : Int} (hk : ∀ t, k (.int b t) news) (e : a = b) : ∀ t, k (.int a t) news := e ▸ hk
theorem endB {k : Value → Led → Prop} {news : Led} {a b : Bool} (hk : Tok → k (.bool b) news) (e : a = b) : Tok → k (.bool a) news := e ▸ hk
theorem andT {a b : Bool} (h : a = true) (g : b = true) : (a && b) = true := by rw [h, g]; rfl
theorem andF {a b : Bool} (h : a = false) : (a && b) = false := by rw [h]; rfl
theorem andF' {a b : Bool} (h : b = false) : (a && b) = false := by rw [h, Bool.and_false]
theorem orT {a b : Bool} (h : a = true) : (a || b) = true := by rw [h]; rfl
theorem orT' {a b : Bool} (h : b = true) : (a || b) = true := by rw [h, Bool.or_true]
theorem orF {a b : Bool} (h : a = false) (g : b = false) : (a || b) = false := by rw [h, g]; rfl
theorem notT {a : Bool} (h : a = false) : (!a) = true := by rw [h]; rfl
theorem notF {a : Bool} (h : a = true) : (!a) = false := by rw [h]; rfl
/-- a def's contract out of its body -/
theorem cc_of {w : World} {d : Nat} {f : Addr} {vs : List Value} {pre : Led → Prop} {T : Led → (Value → Led → Prop) → Prop} {name qual : Str} {params : Arguments} {body : List Stmt} {scope : Scope} {dV kV doc pm cdv ct oc : Value} {an od : Option Addr} {osl : Array (Option Value)} {mm0 : Locs} (rb : List (Str × Value))
    (ho : (KF w.params).lookup f = some ⟨oc, od, .func (fnOf name qual params body scope dV kV doc pm an cdv ct), osl⟩) (hcd : codeIn (KF w.params) cdv qual = true)
    (hbind : bindArgs (fnOf name qual params body scope dV kV doc pm an cdv ct) ⟨vs, []⟩ = pure rb.reverse) (hB : VlB rb mm0) (hloc : (rb.reverse.all fun x => decide (scope.names.lookup x.1 = some .local)) = true)
    (hco : scope.isCoroutine = false) (hgen : scope.isGenerator = false) (hk : scope.kind = .function) (hcell : (scope.names.all fun x => decide (x.2 ≠ .cell)) = true)
    (h : ∀ (c : Cx) (news : Led) (k : Value → Led → Prop), pre news → T news k → Wb w d c scope mm0 news body (fun _ n' => k .none n') k) : CC w (d + 1) f vs pre T :=
  ⟨fun p loose mean mg mb news dp un gd cn cs a ccd cl outer A₀ base h₀ L m s Q E B F X N Tp hkk hp hd hu ht => by
    refine wpAny_call ?_
    refine code_def B F X N Tp (A := ktrTop dp un gd cn cs L a ccd cl outer) rfl rfl hkk ho hcd (by show dp < recursionLimit; omega) (BindsTo.of_eq hbind) (locs hloc) ?_ hco hgen hk (fun x hx => of_decide_eq_true (List.all_eq_true.mp hcell x hx))
    intro g L' h₁ FG F' N' B' X' T'
    refine h ⟨p, loose, mean, mg, mb, dp + 1, un + 3, gd, qual, f, cdv, envX cn cs L a ccd cl :: outer, _, base, g, L'⟩ news _ hp ht ⟨B', X', T', hk, by show dp + 1 + d < recursionLimit; omega, by show un + 3 + 8 * d < cLine; omega⟩ _ _ _ ⟨⟨_, F', fun x V e => by
      show ∃ t, rb.reverse.reverse.lookup x = some (V t)
      rw [List.reverse_reverse]
      exact hB.lookup e⟩, N'⟩ ?_ ?_
    · intro mm' n' h' tk' S' kv
      obtain ⟨m', F2, _, N2⟩ := S'.open'
      exact leaveK_ F2 N2 fun F3 N3 => kv h' tk' F3 N3
    · intro v n' h' tk' S' kv
      obtain ⟨m', F2, _, N2⟩ := S'.open'
      exact leaveK_ F2 N2 fun F3 N3 => kv h' tk' F3 N3⟩
noncomputable def methOk (o : PySem.Expr) (apos pos : Pos) (args : List PySem.Expr) : Bool := notCall o && (apos.endLine == pos.line) && noStars args && decide (args.length < 30)
theorem star_len {pos : Pos} {es : List PySem.Expr} {env : Env} (h : noStars es = true) : (backTo pos (starEach es env)).all (!·.1) = true := by
  induction es with
  | nil => rfl
  | cons e r ih =>
    have := Bool.and_eq_true_iff.mp h
    rw [notStar_of this.1]
    show (true && (backTo pos (starEach r env)).all (!·.1)) = true
    rw [ih this.2]; rfl
theorem callPos_eq {o : PySem.Expr} {apos pos : Pos} {env : Env} (h : (apos.endLine == pos.line) = true) : methodCallPos true o env apos pos = pure pos := by
  unfold methodCallPos
  rw [h]
  rfl
theorem form_eq {pos : Pos} {args : List PySem.Expr} {env : Env} (h : noStars args = true) (hl : args.length < 30) : methodCallForm (args.length + 0) (backTo pos (starEach args env)) [] = true := by
  unfold methodCallForm
  rw [star_len h]
  simp [hl]
theorem meth_eq {o : PySem.Expr} {nm : Str} {apos pos : Pos} {args : List PySem.Expr} {env : Env} (h : methOk o apos pos args = true) : eval (.Call (.Attribute o nm apos) args [] pos) env = (do
      let ov ← eval o env
      standAt apos.atName
      let (f, first) ← holding [ov] (getMethod ov nm (do return (← importBound o env).getD true))
      callWith pos f first (backTo pos (starEach args env)) []) := by
  have a := Bool.and_eq_true_iff.mp h
  have b := Bool.and_eq_true_iff.mp a.1
  have d := Bool.and_eq_true_iff.mp b.1
  have e4 := callPos_eq (o := o) (env := env) d.2
  show (do
    let ov ← attributeBase o nm env (eval o env)
    standAt apos.atName
    methodCall o nm apos pos env ov (args.length + 0) (backTo pos (starEach args env)) []) = _
  rw [base_eq d.1]
  unfold methodCall
  rw [form_eq b.2 (of_decide_eq_true a.2), e4]
  rfl
section
variable {w : World} {D : Nat} {c : Cx} {cs : Scope} {mm : Locs} {news : Led}
theorem Sta.sub {news' : Led} {h : Heap} (S : Sta c mm news h) (hs : ∀ p ∈ news', p ∈ news) : Sta c mm news' h := ⟨S.loc, fun p hp => S.news p (hs p hp)⟩
/-- the built-in len of a list of the ledger -/
theorem Ev.len {x : Str} {np pos : Pos} {e : PySem.Expr} {a : Addr} {l : List Value} {n : Nat} (ho : globOk cs x = true) (hn : nsIn (KF w.params) mainGlobals x = some Option.none) (hx : x = Str.ofString "len")
    (he : Ev w D c cs mm news e fun _ => .ref a) (hm : (a, listOf l.toArray n) ∈ news) (hf : (l.length : Int) < 2 ^ 63) (hs : notStar e = true) : Ev w D c cs mm news (.Call (.Name x np) [e] [] pos) fun t => .int l.length t :=
  fun O s Q E S q => by
    subst hx
    refine Call_ ((Ev.bltn ho hn PySem.boot_len (by decide) Vl.any).go O S fun _ h1 tk1 S1 => ?_)
    refine callWith_method1 (first := []) ?_ (notStar_of hs) rfl
    refine args_cons (he.go O S1 fun t h2 tk2 S2 => args_nil ?_) (notStar_of hs)
    exact len_news S2.news hm rfl hf (q _ news h2 _ S2 ⟨rfl, .int⟩)
theorem Ev.lenT {x : Str} {np pos : Pos} {e : PySem.Expr} {a : Addr} {l : List Value} (ho : globOk cs x = true) (hn : nsIn (KF w.params) mainGlobals x = some Option.none) (hx : x = Str.ofString "len")
    (he : Ev w D c cs mm news e fun _ => .ref a) (hm : (a, tp l) ∈ news) (hf : (l.length : Int) < 2 ^ 63) (hs : notStar e = true) : Ev w D c cs mm news (.Call (.Name x np) [e] [] pos) fun t => .int l.length t :=
  fun O s Q E S q => by
    subst hx
    refine Call_ ((Ev.bltn ho hn PySem.boot_len (by decide) Vl.any).go O S fun _ h1 tk1 S1 => ?_)
    refine callWith_method1 (first := []) ?_ (notStar_of hs) rfl
    refine args_cons (he.go O S1 fun t h2 tk2 S2 => args_nil ?_) (notStar_of hs)
    exact PyProof.Rows.len_tuple ⟨_, (S2.news _ hm).1, rfl, 0, rfl⟩ (by simpa using hf) (by simpa using q (.int l.length _) news h2 _ S2 ⟨rfl, .int⟩)
/-- an item of a tuple that is made for it -/
theorem Ev.pick {elts : List PySem.Expr} {kk : Nat} {p0 pos : Pos} {slice : PySem.Expr} {Vs : List (Tok → Value)} {k : Int} {j : Nat} {V : Tok → Value} (he : EvL w D c cs mm news p0 elts Vs) (hs : ∀ n, Ev w D c cs mm n slice fun t => .int k t)
    (hj : seqIndex? k Vs.length = some j) (hk : (decide (-(2 ^ 63) ≤ k) && decide (k < 2 ^ 63)) = true) (hx : Vs[j]? = some V) (hn : notSlice slice = true) (hz : decide (Vs.length ≤ sizeLine) = true) : Ev w D c cs mm news (.Subscript (.Tuple elts kk p0) slice pos) V :=
  fun O s Q E S q => by
    have app_len : ∀ (Vs : List (Tok → Value)) τ, (app Vs τ).length = Vs.length := by
      intro Vs
      induction Vs with
      | nil => intro _; rfl
      | cons V r ih => intro τ; simp [app, ih]
    have app_at : ∀ (Vs : List (Tok → Value)) (τ : Nat → Tok) (j : Nat) (V : Tok → Value), ∀ (_ : Vs[j]? = some V), ∃ t, (app Vs τ)[j]? = some (V t) := by
      intro Vs
      induction Vs with
      | nil => intro τ j V h; simp at h
      | cons U r ih =>
        intro τ j V h
        cases j with
        | zero =>
          have : U = V := by simpa using h
          subst this
          exact ⟨_, rfl⟩
        | succ j =>
          have h' : r[j]? = some V := by simpa using h
          obtain ⟨t, ht⟩ := ih (fun n => τ (n + 1)) j V h'
          exact ⟨t, by simpa [app] using ht⟩
    refine Subscript_ (wpAny_Tuple (he O s _ E S fun vs n' h1 tk1 S1 ⟨e1, τ, e2⟩ => ?_))
    subst e1; subst e2
    refine ⟨by rw [app_len]; exact of_decide_eq_true hz, ?_⟩
    obtain ⟨m, F, hmm, N⟩ := S1.open'
    have F1 := F.push { cls := .type "tuple", data := .seq (app Vs τ).toArray }
    have N1 : News c.h₀ c.L (h1.push { cls := .type "tuple", data := .seq (app Vs τ).toArray }) n' := fun p hp => ⟨Heap.get?_push_of_some _ (N p hp).1, (N p hp).2⟩
    have g1 : (h1.push { cls := .type "tuple", data := .seq (app Vs τ).toArray }).get? h1.objs.size = some { cls := .type "tuple", data := .seq (app Vs τ).toArray } := Heap.get?_push_size _ rfl
    have hL : c.L < h1.objs.size := by
      obtain ⟨oL, es, ep, hL, _⟩ := F.ns
      exact Heap.lt_size hL
    have h0 : c.h₀.get? h1.objs.size = Option.none := by
      cases hq : c.h₀.get? h1.objs.size with
      | none => rfl
      | some o => exact absurd (Nat.lt_of_lt_of_le (Heap.lt_size hq) (Nat.le_trans F.above (Nat.le_of_lt hL))) (Nat.lt_irrefl _)
    have N2 : News c.h₀ c.L (h1.push { cls := .type "tuple", data := .seq (app Vs τ).toArray }) ((h1.objs.size, tp (app Vs τ)) :: n') := fun p hp => by
      rcases List.mem_cons.mp hp with rfl | hp
      · exact ⟨g1, Nat.ne_of_gt hL, h0⟩
      · exact N1 p hp
    obtain ⟨t, ht⟩ := app_at Vs τ j V hx
    have h := Bool.and_eq_true_iff.mp hk
    refine (hs _).go (s := { s with heap := h1.push { cls := .type "tuple", data := .seq (app Vs τ).toArray }, toks := tk1 }) O ⟨⟨m, F1, hmm⟩, N2⟩ fun u h2 tk2 S2 => ?_
    exact item_tupleT ⟨_, (S2.news _ (.head _)).1, rfl, 0, rfl⟩ (of_decide_eq_true h.1) (of_decide_eq_true h.2) (by rw [app_len]; exact hj) ht (q _ n' h2 tk2 (S2.sub fun p hp => List.mem_cons_of_mem _ hp) ⟨rfl, t, rfl⟩) (subscripted_int hn)
/-- dict.get of a dict of ints in the ledger -/
theorem Ev.dget {o e : PySem.Expr} {apos pos : Pos} {a : Addr} {ob : Obj} {kvs : List (Int × Value)} {k : Int} {v : Value} {V : Tok → Value} {nm : Str} (ho : Ev w D c cs mm news o fun _ => .ref a) (he : Ev w D c cs mm news e fun t => .int k t)
    (hx : nm = Str.ofString "get") (hm : (a, ob) ∈ news) (hd : ob.IsDictOf (intKind pg w) kvs) (lo : (a == sysModules) = false) (hl : valueAt kvs k = some v) (hV : Vl v V) (hc : methOk o apos pos [e] = true) :
    Ev w D c cs mm news (.Call (.Attribute o nm apos) [e] [] pos) V :=
  fun O s Q E S q => by
    subst hx
    have hs : notStar e = true := by
      have := (Bool.and_eq_true_iff.mp (Bool.and_eq_true_iff.mp hc).1).2
      exact (Bool.and_eq_true_iff.mp this).1
    refine MethodCall_ (ho.go O S fun t h1 tk1 S1 => ?_) (meth_eq hc)
    refine kdg_method (knd := intKind _ _) S1.news hm hd ?_
    refine callWith_method1 ?_ (notStar_of hs) rfl
    refine args_cons (he.go O S1 fun u h2 tk2 S2 => args_nil ?_) (notStar_of hs)
    exact kdg_get1 (knd := intKind _ _) S2.news hm hd lo (intKind_is _ _ _ _) _ hl (q _ news h2 _ S2 ⟨rfl, hV⟩)
end
theorem subLq {all : List (Addr × Obj)} : ∀ {l : List (Addr × Obj)}, (∀ p ∈ l, p ∈ all) → SubL l all
  | [], _ => trivial
  | p :: _, h => ⟨h p (.head _), subLq fun q hq => h q (.tail _ hq)⟩
theorem offWq {I : Addr} {o : Obj} : ∀ {l : List (Addr × Obj)}, (∀ p ∈ l, p.1 < I) → OffW [(I, o)] l
  | [], _ => trivial
  | q :: _, h => ⟨⟨.inl fun e => by have := h q (.head _); exact absurd (e ▸ this) (Nat.lt_irrefl _), trivial⟩, offWq fun q hq => h q (.tail _ hq)⟩
section
variable {w : World} {D : Nat} {c : Cx} {cs : Scope} {mm : Locs} {news : Led}
/-- a loop's target takes a value, then the body runs -/
noncomputable def Wt (w : World) (D : Nat) (c : Cx) (cs : Scope) (target : PySem.Expr) (v : Value) (mm : Locs) (news : Led) (body : List Stmt) (kn : Locs → Led → Prop) (k : Value → Led → Prop) : Prop :=
  Ok w D c cs → ∀ (s : Shared) (Q : Flow → Shared → Prop) (E : Value → Shared → Prop), Sta c mm news s.heap →
    (∀ mm' news' h' tk', Sta c mm' news' h' → kn mm' news' → Q .next { s with heap := h', toks := tk' }) →
    (∀ v news' h' tk', Sta c [] news' h' → k v news' → Q (.ret v) { s with heap := h', toks := tk' }) → wpAny (model pg w) (c.ar cs) (assign target (c.env cs) v) (fun _ s' => wpAny (model pg w) (c.ar cs) (execs body (c.env cs)) Q E s') E s
theorem Wt.name {x : Str} {px : Pos} {v : Value} {V : Tok → Value} {body : List Stmt} {kn : Locs → Led → Prop} {k : Value → Led → Prop} (hv : Vl v V) (ho : locOk cs x = true) (h : Wb w D c cs ((x, V) :: mm) news body kn k) : Wt w D c cs (.Name x px) v mm news body kn k :=
  fun O s Q E S qn qr => by
    obtain ⟨m, F, hmm, N⟩ := S.open'
    obtain ⟨t, rfl⟩ := hv
    refine wpAny_assign_Name (storeX_L F N (fun h' F' N' => ?_) O.kind (locOk_of ho).1)
    exact h O { s with heap := h', toks := s.toks + 1 } Q E (Sta.set hmm F' N') (fun mm' n' h' tk' S' kv => qn mm' n' h' tk' S' kv) (fun v n' h' tk' S' kv => qr v n' h' tk' S' kv)
theorem Wt.pair {x y : Str} {px py pt : Pos} {kk : Nat} {a : Addr} {v1 v2 : Value} {V1 V2 : Tok → Value} {body : List Stmt} {kn : Locs → Led → Prop} {k : Value → Led → Prop} (hm : (a, tp [v1, v2]) ∈ news) (h1 : Vl v1 V1) (h2 : Vl v2 V2)
    (ho1 : locOk cs x = true) (ho2 : locOk cs y = true) (h : Wb w D c cs ((y, V2) :: (x, V1) :: mm) news body kn k) : Wt w D c cs (.Tuple [.Name x px, .Name y py] kk pt) (.ref a) mm news body kn k :=
  fun O s Q E S qn qr => by
    obtain ⟨m, F, hmm, N⟩ := S.open'
    obtain ⟨t1, rfl⟩ := h1
    obtain ⟨t2, rfl⟩ := h2
    refine unpackN_ F N (items := #[V1 t1, V2 t2]) ⟨_, (N _ hm).1, rfl, 0, rfl⟩ rfl rfl rfl fun h1 F1 N1 => ?_
    refine wpAny_assignInOrder_more (wpAny_assign_Name (storeX_L F1 N1 (fun h2 F2 N2 => ?_) O.kind (locOk_of ho1).1))
    have S2 := Sta.set hmm F2 N2
    obtain ⟨m2, F2', hmm2, N2'⟩ := S2.open'
    refine wpAny_assignInOrder_more (wpAny_assign_Name (storeX_L F2' N2' (fun h3 F3 N3 => wpAny_assignInOrder_none ?_) O.kind (locOk_of ho2).1))
    exact h O { s with heap := h3, toks := _ } Q E (Sta.set hmm2 F3 N3) (fun mm' n' h' tk' S' kv => qn mm' n' h' tk' S' kv) (fun v n' h' tk' S' kv => qr v n' h' tk' S' kv)
/-- the turns that are left of a loop over written items; I: its iterator -/
noncomputable def Wf (w : World) (D : Nat) (c : Cx) (cs : Scope) (target : PySem.Expr) (body : List Stmt) (I : Addr) (cl : String) (keep : Addr × Obj) (kn : Locs → Led → Prop) (k : Value → Led → Prop) : List Value → Locs → Led → Prop
  | [], mm, news => kn mm news
  | v :: r, mm, news => ∀ o : Obj, o.cls = .type cl → Wt w D c cs target v mm ((I, o) :: news) body
      (fun mm' n' => ∃ n2, (∀ p ∈ (I, o) :: n2, p ∈ n') ∧ (∀ p ∈ n2, p.1 < I) ∧ keep ∈ n2 ∧ Wf w D c cs target body I cl keep kn k r mm' n2) k
theorem Wf.items {target : PySem.Expr} {body : List Stmt} {I : Addr} {cl : String} {keep : Addr × Obj} {kn : Locs → Led → Prop} {k : Value → Led → Prop} (O : Ok w D c cs) {s : Shared} {Q : Flow → Shared → Prop} {E : Value → Shared → Prop}
    (qn : ∀ mm' news' h' tk', Sta c mm' news' h' → kn mm' news' → Q .next { s with heap := h', toks := tk' })
    (qr : ∀ v news' h' tk', Sta c [] news' h' → k v news' → Q (.ret v) { s with heap := h', toks := tk' }) :
    ∀ (vs : List Value) (mm : Locs) (news : Led) (m : Str → Option Value), (∀ x V, mm.lookup x = some V → ∃ t, m x = some (V t)) → Wf w D c cs target body I cl keep kn k vs mm news →
      ItemsRest pg w (c.ar cs) E c.h₀ (c.env cs) target body Q s [(I, cl)] [keep] (vs.map .val) m news
  | [], mm, news, m, hmm, h => ItemsRest.zero fun h' tk F N => qn mm news h' tk ⟨⟨m, F, hmm⟩, N⟩ h
  | v :: r, mm, news, m, hmm, h => ItemsRest.val fun h' tk F => AllObj.cons fun o ho N => by
    refine h o ho O { s with heap := h', toks := tk } _ E ⟨⟨m, F, hmm⟩, N⟩ ?_ ?_
    · intro mm' n' h2 tk2 S2 ⟨n2, sub, lt, hk, g⟩
      obtain ⟨m2, F2, hmm2, N2⟩ := S2.open'
      exact UnrEndW.intro F2 N2 n2 ⟨sub _ (.head _), trivial⟩ (subLq fun p hp => sub p (List.mem_cons_of_mem _ hp)) (offWq lt) ⟨⟨hk, trivial⟩, Wf.items O qn qr r mm' n2 m2 hmm2 g⟩
    · exact fun v n' h2 tk2 S2 kv => qr v n' h2 tk2 S2 kv
noncomputable def foldOk (iter : PySem.Expr) : Bool := match iter with | .Set .. => false | _ => true
theorem Wb.forL {target iter : PySem.Expr} {body rest : List Stmt} {pos : Pos} {ax : Addr} {vs : List Value} {n : Nat} {kn : Locs → Led → Prop} {k : Value → Led → Prop} (hi : Ev w D c cs mm news iter fun _ => .ref ax) (hm : (ax, listOf vs.toArray n) ∈ news)
    (hs : ∀ x, foldedSetIterable iter (c.env cs) x = pure x)
    (h : ∀ I : Addr, (∀ p ∈ news, p.1 < I) → Wf w D c cs target body I "list_iterator" (ax, listOf vs.toArray n) (fun mm' n' => Wb w D c cs mm' n' rest kn k) k vs mm news) : Wb w D c cs mm news (.For target iter body [] pos :: rest) kn k :=
  Wb.cons fun O s Q E S qn qr => by
    obtain ⟨m, F, hmm, N⟩ := S.open'
    refine wpAny_mono (E := fun _ _ => False) (For_turns F (hi.go O S fun t h1 tk1 S1 => ?_) hs PassesOwn.never) (fun _ _ x => x) fun _ _ x => x.elim
    obtain ⟨m1, F1, hmm1, N1⟩ := S1.open'
    exact iter_listTurns rfl F1 N1 hm rfl rfl fun I hI => Wf.items (s := { s with heap := h1, toks := tk1 }) O (fun mm' n' h' tk' S' kv => qn mm' n' h' tk' S' kv) (fun v n' h' tk' S' kv => qr v n' h' tk' S' kv) vs mm news m1 hmm1 (h I hI)
theorem Wb.forT {target iter : PySem.Expr} {body rest : List Stmt} {pos : Pos} {ax : Addr} {vs : List Value} {kn : Locs → Led → Prop} {k : Value → Led → Prop} (hi : Ev w D c cs mm news iter fun _ => .ref ax) (hm : (ax, tp vs) ∈ news)
    (hs : ∀ x, foldedSetIterable iter (c.env cs) x = pure x)
    (h : ∀ I : Addr, (∀ p ∈ news, p.1 < I) → Wf w D c cs target body I "tuple_iterator" (ax, tp vs) (fun mm' n' => Wb w D c cs mm' n' rest kn k) k vs mm news) : Wb w D c cs mm news (.For target iter body [] pos :: rest) kn k :=
  Wb.cons fun O s Q E S qn qr => by
    obtain ⟨m, F, hmm, N⟩ := S.open'
    refine wpAny_mono (E := fun _ _ => False) (For_turns F (hi.go O S fun t h1 tk1 S1 => ?_) hs PassesOwn.never) (fun _ _ x => x) fun _ _ x => x.elim
    obtain ⟨m1, F1, hmm1, N1⟩ := S1.open'
    exact iter_tupTurns rfl F1 N1 hm rfl rfl fun I hI => Wf.items (s := { s with heap := h1, toks := tk1 }) O (fun mm' n' h' tk' S' kv => qn mm' n' h' tk' S' kv) (fun v n' h' tk' S' kv => qr v n' h' tk' S' kv) vs mm news m1 hmm1 (h I hI)
/-- a list of the ledger grows -/
theorem Go.append {o e : PySem.Expr} {apos pos : Pos} {a : Addr} {l : List Value} {n : Nat} {nm : Str} {V : Tok → Value} {news' : Tok → Led} {K : Value → Led → Prop} (ho : Ev w D c cs mm news o fun _ => .ref a) (he : Ev w D c cs mm news e V)
    (hx : nm = Str.ofString "append") (U : ∀ t, Upd a (listOf l.toArray n) (listOf (l ++ [V t]).toArray (n + 1)) news (news' t)) (hz : l.length ≤ sizeLine) (hc : methOk o apos pos [e] = true) (h : ∀ t, K .none (news' t)) : Go w D c cs mm news (eval (.Call (.Attribute o nm apos) [e] [] pos) (c.env cs)) K :=
  fun O s Q E S q => by
    subst hx
    have hs : notStar e = true := by
      have := (Bool.and_eq_true_iff.mp (Bool.and_eq_true_iff.mp hc).1).2
      exact (Bool.and_eq_true_iff.mp this).1
    refine MethodCall_ (ho.go O S fun t h1 tk1 S1 => ?_) (meth_eq hc)
    obtain ⟨pre, post, e1, _, _, _⟩ := (U 0).split
    refine kl_method (its := l.toArray) (n := n) S1.news (by rw [e1]; simp) PySem.F.slot_list_append PySem.F.type_list_append ?_
    refine callWith_method1 ?_ (notStar_of hs) rfl
    refine args_cons (he.go O S1 fun u h2 tk2 S2 => args_nil ?_) (notStar_of hs)
    obtain ⟨m, F, hmm, N⟩ := S2.open'
    exact append_K (hsz := by rw [List.size_toArray]; exact hz) F N (by
      have e : l.toArray.push (V u) = (l ++ [V u]).toArray := by simp
      rw [e]
      exact U u) fun h3 F3 N3 => q .none _ h3 tk2 ⟨⟨m, F3, hmm⟩, N3⟩ (h u)
theorem Go.pop {o : PySem.Expr} {apos pos : Pos} {a : Addr} {l p : List Value} {n : Nat} {nm : Str} {y : Value} {news' : Led} {K : Value → Led → Prop} (ho : Ev w D c cs mm news o fun _ => .ref a)
    (hx : nm = Str.ofString "pop") (U : Upd a (listOf l.toArray n) (listOf p.toArray (n + 1)) news news') (e : kl_last l = some (p, y)) (hz : l.length ≤ sizeLine) (hc : methOk o apos pos [] = true) (h : K y news') : Go w D c cs mm news (eval (.Call (.Attribute o nm apos) [] [] pos) (c.env cs)) K :=
  fun O s Q E S q => by
    subst hx
    refine MethodCall_ (ho.go O S fun t h1 tk1 S1 => ?_) (meth_eq hc)
    obtain ⟨pre, post, e1, _, _, _⟩ := U.split
    refine kl_method (its := l.toArray) (n := n) S1.news (by rw [e1]; simp) PySem.F.slot_list_pop PySem.F.type_list_pop ?_
    refine callWith_method0 ?_
    obtain ⟨m, F, hmm, N⟩ := S1.open'
    exact kl_pop (its := l.toArray) F N (by simpa using e) U (by simpa using hz) fun h3 F3 N3 => q y _ h3 tk1 ⟨⟨m, F3, hmm⟩, N3⟩ h
/-- a new tuple -/
theorem Go.tup {elts : List PySem.Expr} {kk : Nat} {pos : Pos} {Vs : List (Tok → Value)} {K : Value → Led → Prop} (he : EvL w D c cs mm news pos elts Vs) (hz : decide (Vs.length ≤ sizeLine) = true)
    (h : ∀ a τ, (∀ p ∈ news, p.1 < a) → K (.ref a) ((a, tp (app Vs τ)) :: news)) : Go w D c cs mm news (eval (.Tuple elts kk pos) (c.env cs)) K :=
  fun O s Q E S q => by
    refine wpAny_Tuple (he O s _ E S fun vs n' h1 tk1 S1 ⟨e1, τ, e2⟩ => ?_)
    subst e1; subst e2
    have app_len : ∀ (Vs : List (Tok → Value)) τ, (app Vs τ).length = Vs.length := by
      intro Vs
      induction Vs with
      | nil => intro _; rfl
      | cons V r ih => intro τ; simp [app, ih]
    refine ⟨by rw [app_len]; exact of_decide_eq_true hz, ?_⟩
    obtain ⟨m, F, hmm, N⟩ := S1.open'
    have hL : c.L < h1.objs.size := by
      obtain ⟨oL, es, ep, hL, _⟩ := F.ns
      exact Heap.lt_size hL
    refine q _ _ (h1.push { cls := .type "tuple", data := .seq (app Vs τ).toArray }) tk1 ⟨⟨m, F.push _, hmm⟩, fun p hp => ?_⟩ (h _ τ fun p hp => Heap.lt_size (N p hp).1)
    rcases List.mem_cons.mp hp with rfl | hp
    · refine ⟨Heap.get?_push_size _ rfl, Nat.ne_of_gt hL, ?_⟩
      cases hq : c.h₀.get? h1.objs.size with
      | none => rfl
      | some o => exact absurd (Nat.lt_of_lt_of_le (Heap.lt_size hq) (Nat.le_trans F.above (Nat.le_of_lt hL))) (Nat.lt_irrefl _)
    · exact ⟨Heap.get?_push_of_some _ (N p hp).1, (N p hp).2⟩
theorem Go.list {elts : List PySem.Expr} {pos : Pos} {Vs : List (Tok → Value)} {K : Value → Led → Prop} (he : EvL w D c cs mm news pos elts Vs) (hz : decide (Vs.length ≤ sizeLine) = true)
    (h : ∀ a τ, (∀ p ∈ news, p.1 < a) → K (.ref a) ((a, listOf (app Vs τ).toArray 0) :: news)) : Go w D c cs mm news (eval (.List elts pos) (c.env cs)) K :=
  fun O s Q E S q => by
    refine wpAny_List (he O s _ E S fun vs n' h1 tk1 S1 ⟨e1, τ, e2⟩ => ?_)
    subst e1; subst e2
    have app_len : ∀ (Vs : List (Tok → Value)) τ, (app Vs τ).length = Vs.length := by
      intro Vs
      induction Vs with
      | nil => intro _; rfl
      | cons V r ih => intro τ; simp [app, ih]
    refine ⟨by rw [app_len]; exact of_decide_eq_true hz, ?_⟩
    obtain ⟨m, F, hmm, N⟩ := S1.open'
    have hL : c.L < h1.objs.size := by
      obtain ⟨oL, es, ep, hL, _⟩ := F.ns
      exact Heap.lt_size hL
    refine q _ _ (h1.push { cls := .type "list", data := .seq (app Vs τ).toArray }) tk1 ⟨⟨m, F.push _, hmm⟩, fun p hp => ?_⟩ (h _ τ fun p hp => Heap.lt_size (N p hp).1)
    rcases List.mem_cons.mp hp with rfl | hp
    · refine ⟨Heap.get?_push_size _ rfl, Nat.ne_of_gt hL, ?_⟩
      cases hq : c.h₀.get? h1.objs.size with
      | none => rfl
      | some o => exact absurd (Nat.lt_of_lt_of_le (Heap.lt_size hq) (Nat.le_trans F.above (Nat.le_of_lt hL))) (Nat.lt_irrefl _)
    · exact ⟨Heap.get?_push_of_some _ (N p hp).1, (N p hp).2⟩
/-- a test whose left side turns the ledger -/
theorem Wb.ifG {test : PySem.Expr} {body orelse rest : List Stmt} {pos : Pos} {kn : Locs → Led → Prop} {k : Value → Led → Prop}
    (h : Go w D c cs mm news (isTrue test (c.env cs) (eval test (c.env cs))) fun b n1 => if b = true then Wb w D c cs mm n1 body (fun mm' n' => Wb w D c cs mm' n' rest kn k) k else Wb w D c cs mm n1 orelse (fun mm' n' => Wb w D c cs mm' n' rest kn k) k) :
    Wb w D c cs mm news (.If test body orelse pos :: rest) kn k :=
  Wb.cons fun O s Q E S qn qr => wpAny_If (h O s _ E S fun v n' h' tk' S' g => by
    cases v with
    | true => exact (g : if true = true then _ else _) O { s with heap := h', toks := tk' } Q E S' (fun mm' n' h' tk' S' kv => qn mm' n' h' tk' S' kv) (fun v n' h' tk' S' kv => qr v n' h' tk' S' kv)
    | false => exact (g : if false = true then _ else _) O { s with heap := h', toks := tk' } Q E S' (fun mm' n' h' tk' S' kv => qn mm' n' h' tk' S' kv) (fun v n' h' tk' S' kv => qr v n' h' tk' S' kv))
theorem Go.tcmp {op : CmpOp} {l r : PySem.Expr} {pos : Pos} {e' : Sem Value} {K : Bool → Led → Prop} (hl : Go w D c cs mm news (eval l (c.env cs)) fun v n1 => ∃ V U b, Vl v V ∧ Ev w D c cs mm n1 r U ∧ Cmp w D c cs mm n1 op V U b ∧ K b n1) (hm : behOk op r = true) :
    Go w D c cs mm news (isTrue (.Compare l [op] [r] pos) (c.env cs) e') K :=
  fun O s Q E S q => wpAny_isTrue_Compare1 (hl O s _ E S fun v n1 h1 tk1 S1 ⟨V, U, b, ⟨t, hv⟩, hr, hb, hk⟩ => by
    subst hv
    refine hr.go (s := { s with heap := h1, toks := tk1 }) O S1 fun u h2 tk2 S2 => ?_
    refine hb t u O { s with heap := h2, toks := tk2 } _ E S2 fun v n' h' tk' S' ⟨e1, e2⟩ => ?_
    subst e1; subst e2
    exact wpAny_truthy_bool (q b _ h' tk' S' hk)) (behOk_of hm)
/-- int() of a truth value -/
theorem Ev.intB {x : Str} {np pos : Pos} {e : PySem.Expr} {b : Bool} (ho : globOk cs x = true) (hn : nsIn (KF w.params) mainGlobals x = some Option.none) (hb : bootBuiltins x = some (.type "int")) (hx : x ≠ Str.ofString "__name__")
    (he : Ev w D c cs mm news e fun _ => .bool b) (hs : notStar e = true) : Ev w D c cs mm news (.Call (.Name x np) [e] [] pos) fun t => .int (if b then 1 else 0) t :=
  fun O s Q E S q => by
    refine Call_ ((Ev.bltn ho hn hb hx (V := fun _ => .type "int") ⟨0, rfl⟩).go O S fun _ h1 tk1 S1 => ?_)
    refine Pv.callWith_type1 ?_ (notStar_of hs) rfl
    refine args_cons (he.go O S1 fun t h2 tk2 S2 => args_nil ?_) (notStar_of hs)
    exact call_int_bool (q _ news h2 _ S2 ⟨rfl, .int⟩)
end
theorem ne_selfq {w : World} {B : Around} {E : Value → Shared → Prop} {s : Shared} {h₀ : Heap} {L pl : Addr} {news : List (Addr × Obj)} {vs : List Value} {Q : Value → Shared → Prop} (N : News h₀ L s.heap news) (hm : (pl, tp vs) ∈ news) (hu : B.units < cLine) (h : Q (.bool false) s) :
    wpAny (model pg w) B (compareOp .NotEq (.ref pl) (.ref pl)) Q E s := by
  have hl : s.heap.IsTuple pl vs.toArray := ⟨_, (N _ hm).1, rfl, 0, rfl⟩
  have q := PySem.SeqAt.RcNeAt.tuples (A := B) (s := s) (e := fun _ => true) hl hl hu (fun j h1 h2 => PySem.SeqAt.EqAt.same _)
  have e : (!((List.range (min vs.toArray.size vs.toArray.size)).all (fun _ => true) && vs.toArray.size == vs.toArray.size)) = false := by simp
  rw [e] at q
  exact q _ _ _ _ h
section
variable {w : World} {D : Nat} {c : Cx} {cs : Scope} {mm : Locs} {news : Led}
theorem Cmp.neSelf {pl : Addr} {vs : List Value} (hm : (pl, tp vs) ∈ news) : Cmp w D c cs mm news .NotEq (fun _ => .ref pl) (fun _ => .ref pl) false :=
  fun _ _ => Go.raw fun O s _ _ m F hmm N q => ne_selfq N hm (by have := O.ru; show c.un < cLine; omega) (q _ news s.heap s.toks m F hmm N ⟨rfl, rfl⟩)
theorem Wb.ifGF0 {test : PySem.Expr} {body rest : List Stmt} {pos : Pos} {kn : Locs → Led → Prop} {k : Value → Led → Prop}
    (h : Go w D c cs mm news (isTrue test (c.env cs) (eval test (c.env cs))) fun b n1 => b = false ∧ Wb w D c cs mm n1 rest kn k) : Wb w D c cs mm news (.If test body [] pos :: rest) kn k :=
  Wb.ifG (Go.mono h fun b n' ⟨e, g⟩ => by subst e; exact Wb.nil g)
theorem updIn {D I : Addr} {o o1 o2 : Obj} {news : Led} (h : I ≠ D) (g : ∀ p ∈ news, p.1 ≠ D) : Upd D o1 o2 ((I, o) :: (D, o1) :: news) ((I, o) :: (D, o2) :: news) := Upd.tail h (Upd.head g)
/-- a new list in a name -/
theorem Wb.assignL {x : Str} {px pos p1 : Pos} {elts : List PySem.Expr} {Vs : List (Tok → Value)} {rest : List Stmt} {kn : Locs → Led → Prop} {k : Value → Led → Prop} (he : EvL w D c cs mm news p1 elts Vs) (hz : decide (Vs.length ≤ sizeLine) = true) (ho : locOk cs x = true)
    (hs : swapsWith (.List elts p1) (some (.Name x px)) pos.line (c.env cs) = pure false)
    (h : ∀ a τ, (∀ p ∈ news, p.1 < a) → Wb w D c cs ((x, fun _ => .ref a) :: mm) ((a, listOf (app Vs τ).toArray 0) :: news) rest kn k) : Wb w D c cs mm news (.Assign [.Name x px] (.List elts p1) pos :: rest) kn k :=
  Wb.assignG (Go.list he hz fun a τ ha => ⟨_, .any, h a τ ha⟩) ho hs
theorem Wb.assignP {x : Str} {px pos p1 : Pos} {kk : Nat} {elts : List PySem.Expr} {Vs : List (Tok → Value)} {rest : List Stmt} {kn : Locs → Led → Prop} {k : Value → Led → Prop} (he : EvL w D c cs mm news p1 elts Vs) (hz : decide (Vs.length ≤ sizeLine) = true) (ho : locOk cs x = true)
    (hs : swapsWith (.Tuple elts kk p1) (some (.Name x px)) pos.line (c.env cs) = pure false)
    (h : ∀ a τ, (∀ p ∈ news, p.1 < a) → Wb w D c cs ((x, fun _ => .ref a) :: mm) ((a, tp (app Vs τ)) :: news) rest kn k) : Wb w D c cs mm news (.Assign [.Name x px] (.Tuple elts kk p1) pos :: rest) kn k :=
  Wb.assignG (Go.tup he hz fun a τ ha => ⟨_, .any, h a τ ha⟩) ho hs
theorem Wb.append {o e : PySem.Expr} {apos pos p0 : Pos} {a : Addr} {l : List Value} {n : Nat} {nm : Str} {V : Tok → Value} {news' : Tok → Led} {rest : List Stmt} {kn : Locs → Led → Prop} {k : Value → Led → Prop} (ho : Ev w D c cs mm news o fun _ => .ref a) (he : Ev w D c cs mm news e V)
    (hx : nm = Str.ofString "append") (U : ∀ t, Upd a (listOf l.toArray n) (listOf (l ++ [V t]).toArray (n + 1)) news (news' t)) (hz : l.length ≤ sizeLine) (hc : methOk o apos pos [e] = true) (hi : interactive (c.env cs) = false)
    (hs : swapsWith (.Call (.Attribute o nm apos) [e] [] pos) none p0.line (c.env cs) = pure false) (h : ∀ t, Wb w D c cs mm (news' t) rest kn k) : Wb w D c cs mm news (.Expr (.Call (.Attribute o nm apos) [e] [] pos) p0 :: rest) kn k :=
  Wb.expr (Go.append ho he hx U hz hc fun t => ⟨trivial, h t⟩) hi hs
theorem Wb.pop {x : Str} {px p0 : Pos} {o : PySem.Expr} {apos pos : Pos} {a : Addr} {l p : List Value} {n : Nat} {nm : Str} {y : Value} {V : Tok → Value} {news' : Led} {rest : List Stmt} {kn : Locs → Led → Prop} {k : Value → Led → Prop} (ho : Ev w D c cs mm news o fun _ => .ref a)
    (hx : nm = Str.ofString "pop") (U : Upd a (listOf l.toArray n) (listOf p.toArray (n + 1)) news news') (e : kl_last l = some (p, y)) (hV : Vl y V) (hz : l.length ≤ sizeLine) (hc : methOk o apos pos [] = true) (hl : locOk cs x = true)
    (hs : swapsWith (.Call (.Attribute o nm apos) [] [] pos) (some (.Name x px)) p0.line (c.env cs) = pure false) (h : Wb w D c cs ((x, V) :: mm) news' rest kn k) : Wb w D c cs mm news (.Assign [.Name x px] (.Call (.Attribute o nm apos) [] [] pos) p0 :: rest) kn k :=
  Wb.assignG (Go.pop ho hx U e hz hc ⟨V, hV, h⟩) hl hs
end
section
variable {w : World} {D : Nat} {c : Cx} {cs : Scope} {mm : Locs} {news : Led}
theorem Ev.fdiv {l r : PySem.Expr} {pos : Pos} {a b : Int} (hl : Ev w D c cs mm news l fun t => .int a t) (hr : Ev w D c cs mm news r fun t => .int b t) (h0 : b ≠ 0) (hp : b.natAbs.log2 < 9000) : Ev w D c cs mm news (.BinOp l .FloorDiv r pos) fun t => .int (a.fdiv b) t :=
  hl.bin hr fun _ _ => Go.raw fun _ _ _ _ m F hm N q => floordiv_int h0 (q _ _ _ _ m F hm N ⟨rfl, .int⟩) (Or.inl (PyProof.noPylong_of_log2 hp))
theorem Ev.pow {l r : PySem.Expr} {pos : Pos} {a b : Int} (hl : Ev w D c cs mm news l fun t => .int a t) (hr : Ev w D c cs mm news r fun t => .int b t) (h0 : 0 ≤ b) (h1 : b ≤ 1000000) (h2 : a.natAbs < 2 ^ 64) : Ev w D c cs mm news (.BinOp l .Pow r pos) fun t => .int (a ^ b.toNat) t :=
  hl.bin hr fun _ _ => Go.raw fun _ _ _ _ m F hm N q => pow_int_small h0 h1 h2 (q _ _ _ _ m F hm N ⟨rfl, .int⟩)
theorem Ev.shl {l r : PySem.Expr} {pos : Pos} {a b : Int} (hl : Ev w D c cs mm news l fun t => .int a t) (hr : Ev w D c cs mm news r fun t => .int b t) (h0 : 0 ≤ b) (h1 : b ≤ 1000000) (h2 : a.natAbs < 2 ^ 64) : Ev w D c cs mm news (.BinOp l .LShift r pos) fun t => .int (a * 2 ^ b.toNat) t :=
  hl.bin hr fun _ _ => Go.raw fun _ _ _ _ m F hm N q => lshift_int_small h0 h1 h2 (q _ _ _ _ m F hm N ⟨rfl, .int⟩)
theorem Ev.shr {l r : PySem.Expr} {pos : Pos} {a b : Int} (hl : Ev w D c cs mm news l fun t => .int a t) (hr : Ev w D c cs mm news r fun t => .int b t) (h0 : 0 ≤ b) : Ev w D c cs mm news (.BinOp l .RShift r pos) fun t => .int (a.fdiv (2 ^ b.toNat)) t :=
  hl.bin hr fun _ _ => Go.raw fun _ _ _ _ m F hm N q => rshift_int h0 (q _ _ _ _ m F hm N ⟨rfl, .int⟩)
theorem Ev.band {l r : PySem.Expr} {pos : Pos} {a b : Int} (hl : Ev w D c cs mm news l fun t => .int a t) (hr : Ev w D c cs mm news r fun t => .int b t) : Ev w D c cs mm news (.BinOp l .BitAnd r pos) fun t => .int (Builtin.bitAnd a b) t :=
  hl.bin hr fun _ _ => Go.raw fun _ _ _ _ m F hm N q => and_int (q _ _ _ _ m F hm N ⟨rfl, .int⟩)
theorem Ev.bor {l r : PySem.Expr} {pos : Pos} {a b : Int} (hl : Ev w D c cs mm news l fun t => .int a t) (hr : Ev w D c cs mm news r fun t => .int b t) : Ev w D c cs mm news (.BinOp l .BitOr r pos) fun t => .int (Builtin.bitOr a b) t :=
  hl.bin hr fun _ _ => Go.raw fun _ _ _ _ m F hm N q => or_int (q _ _ _ _ m F hm N ⟨rfl, .int⟩)
theorem Ev.xor {l r : PySem.Expr} {pos : Pos} {a b : Int} (hl : Ev w D c cs mm news l fun t => .int a t) (hr : Ev w D c cs mm news r fun t => .int b t) : Ev w D c cs mm news (.BinOp l .BitXor r pos) fun t => .int (Builtin.bitXor a b) t :=
  hl.bin hr fun _ _ => Go.raw fun _ _ _ _ m F hm N q => xor_int (q _ _ _ _ m F hm N ⟨rfl, .int⟩)
theorem Ev.neg {x : PySem.Expr} {pos : Pos} {a : Int} (hl : Ev w D c cs mm news x fun t => .int a t) : Ev w D c cs mm news (.UnaryOp .USub x pos) fun t => .int (-a) t :=
  fun O s Q E S q => wpAny_UnaryOp (hl.go O S fun t h1 tk1 S1 => PySem.P.neg_int (q _ news h1 _ S1 ⟨rfl, .int⟩))
theorem Ev.bop1 {op : BoolOp} {e : PySem.Expr} {pos : Pos} {V : Tok → Value} (h : Ev w D c cs mm news e V) : Ev w D c cs mm news (.BoolOp op [e] pos) V :=
  fun O s Q E S q => BoolOp_one (h O s Q E S q)
theorem Ev.andF {e1 e2 : PySem.Expr} {rest : List PySem.Expr} {pos : Pos} {a : Bool} (h : Ev w D c cs mm news e1 fun _ => .bool a) (ha : a = false) : Ev w D c cs mm news (.BoolOp .And (e1 :: e2 :: rest) pos) fun _ => .bool false :=
  fun O s Q E S q => BoolOp_and (h.go O S fun t h1 tk1 S1 => wpAny_truthy_bool (by
    subst ha
    exact q _ news h1 tk1 S1 ⟨rfl, 0, rfl⟩))
theorem Ev.andT {e1 e2 : PySem.Expr} {rest : List PySem.Expr} {pos : Pos} {a : Bool} {V : Tok → Value} (h : Ev w D c cs mm news e1 fun _ => .bool a) (ha : a = true) (g : Ev w D c cs mm news (.BoolOp .And (e2 :: rest) pos) V) : Ev w D c cs mm news (.BoolOp .And (e1 :: e2 :: rest) pos) V :=
  fun O s Q E S q => BoolOp_and (h.go O S fun t h1 tk1 S1 => wpAny_truthy_bool (by
    subst ha
    exact g O { s with heap := h1, toks := tk1 } Q E S1 fun v n' h' tk' S' kv => q v n' h' tk' S' kv))
/-- arguments, of which some are new tuples or lists: what is said of them stands in the grown ledger -/
noncomputable def EvA (w : World) (D : Nat) (c : Cx) (cs : Scope) (mm : Locs) (news : Led) (pos : Pos) (es : List PySem.Expr) (P : List Value → Led → Prop) : Prop :=
  Go w D c cs mm news (spliced (backTo pos (starEach es (c.env cs)))) P
theorem EvA.nil {pos : Pos} {P : List Value → Led → Prop} (h : P [] news) : EvA w D c cs mm news pos [] P := fun _ s _ _ S q => args_nil (q _ news s.heap s.toks S h)
theorem EvA.cons {pos : Pos} {e : PySem.Expr} {rest : List PySem.Expr} {V : Tok → Value} {P : List Value → Led → Prop} (h : Ev w D c cs mm news e V) (hs : notStar e = true) (g : ∀ t, EvA w D c cs mm news pos rest fun vs n' => P (V t :: vs) n') : EvA w D c cs mm news pos (e :: rest) P :=
  fun O s Q E S q => args_cons (h.go O S fun t h1 tk1 S1 => g t O { s with heap := h1, toks := tk1 } _ E S1 fun vs n' h' tk' S' kv => q _ n' h' tk' S' kv) (notStar_of hs)
theorem EvA.go {pos : Pos} {e : PySem.Expr} {rest : List PySem.Expr} {P : List Value → Led → Prop} (h : Go w D c cs mm news (eval e (c.env cs)) fun v n1 => EvA w D c cs mm n1 pos rest fun vs n' => P (v :: vs) n') (hs : notStar e = true) : EvA w D c cs mm news pos (e :: rest) P :=
  fun O s Q E S q => args_cons (h O s _ E S fun v n1 h1 tk1 S1 g => g O { s with heap := h1, toks := tk1 } _ E S1 fun vs n' h' tk' S' kv => q _ n' h' tk' S' kv) (notStar_of hs)
theorem app_len : ∀ (Vs : List (Tok → Value)) (τ : Nat → Tok), (app Vs τ).length = Vs.length
  | [], _ => rfl
  | _ :: r, τ => by simp [app, app_len r]
/-- a new tuple out of arguments of any kind -/
theorem Go.tupA {elts : List PySem.Expr} {kk : Nat} {pos : Pos} {K : Value → Led → Prop} (he : EvA w D c cs mm news pos elts fun vs n1 => vs.length ≤ sizeLine ∧ ∀ a, (∀ p ∈ n1, p.1 < a) → K (.ref a) ((a, tp vs) :: n1)) : Go w D c cs mm news (eval (.Tuple elts kk pos) (c.env cs)) K :=
  fun O s Q E S q => by
    refine wpAny_Tuple (he O s _ E S fun vs n' h1 tk1 S1 ⟨hz, h⟩ => ⟨hz, ?_⟩)
    obtain ⟨m, F, hmm, N⟩ := S1.open'
    have hL : c.L < h1.objs.size := by
      obtain ⟨oL, es, ep, hL, _⟩ := F.ns
      exact Heap.lt_size hL
    refine q _ _ (h1.push { cls := .type "tuple", data := .seq vs.toArray }) tk1 ⟨⟨m, F.push _, hmm⟩, fun p hp => ?_⟩ (h _ fun p hp => Heap.lt_size (N p hp).1)
    rcases List.mem_cons.mp hp with rfl | hp
    · refine ⟨Heap.get?_push_size _ rfl, Nat.ne_of_gt hL, ?_⟩
      cases hq : c.h₀.get? h1.objs.size with
      | none => rfl
      | some o => exact absurd (Nat.lt_of_lt_of_le (Heap.lt_size hq) (Nat.le_trans F.above (Nat.le_of_lt hL))) (Nat.lt_irrefl _)
    · exact ⟨Heap.get?_push_of_some _ (N p hp).1, (N p hp).2⟩
theorem Go.listA {elts : List PySem.Expr} {pos : Pos} {K : Value → Led → Prop} (he : EvA w D c cs mm news pos elts fun vs n1 => vs.length ≤ sizeLine ∧ ∀ a, (∀ p ∈ n1, p.1 < a) → K (.ref a) ((a, listOf vs.toArray 0) :: n1)) : Go w D c cs mm news (eval (.List elts pos) (c.env cs)) K :=
  fun O s Q E S q => by
    refine wpAny_List (he O s _ E S fun vs n' h1 tk1 S1 ⟨hz, h⟩ => ⟨hz, ?_⟩)
    obtain ⟨m, F, hmm, N⟩ := S1.open'
    have hL : c.L < h1.objs.size := by
      obtain ⟨oL, es, ep, hL, _⟩ := F.ns
      exact Heap.lt_size hL
    refine q _ _ (h1.push { cls := .type "list", data := .seq vs.toArray }) tk1 ⟨⟨m, F.push _, hmm⟩, fun p hp => ?_⟩ (h _ fun p hp => Heap.lt_size (N p hp).1)
    rcases List.mem_cons.mp hp with rfl | hp
    · refine ⟨Heap.get?_push_size _ rfl, Nat.ne_of_gt hL, ?_⟩
      cases hq : c.h₀.get? h1.objs.size with
      | none => rfl
      | some o => exact absurd (Nat.lt_of_lt_of_le (Heap.lt_size hq) (Nat.le_trans F.above (Nat.le_of_lt hL))) (Nat.lt_irrefl _)
    · exact ⟨Heap.get?_push_of_some _ (N p hp).1, (N p hp).2⟩
/-- what was made meanwhile is forgotten -/
theorem Go.drop {α : Type} {t : Sem α} {K : α → Led → Prop} (h : Go w D c cs mm news t fun v n' => ∃ n2, (∀ p ∈ n2, p ∈ n') ∧ K v n2) : Go w D c cs mm news t K :=
  fun O s Q E S q => h O s Q E S fun v n' h' tk' S' ⟨n2, sub, kv⟩ => q v n2 h' tk' (S'.sub sub) kv
theorem Ev.of {e : PySem.Expr} {V : Tok → Value} (h : Go w D c cs mm news (eval e (c.env cs)) fun v n' => (∀ p ∈ news, p ∈ n') ∧ Vl v V) : Ev w D c cs mm news e V :=
  Go.drop (Go.mono h fun _ _ ⟨a, b⟩ => ⟨news, a, rfl, b⟩)
/-- a def of the program with arguments of any kind -/
theorem Go.callA {x : Str} {np pos : Pos} {e : PySem.Expr} {rest : List PySem.Expr} {f : Addr} {K : Value → Led → Prop}
    (ho : globOk cs x = true) (hn : nsIn (KF w.params) mainGlobals x = some (some (.ref f))) (hk : keepIn (KF w.params) (.ref f) = true) (hs : noStars (e :: rest) = true)
    (ha : EvA w D c cs mm news pos (e :: rest) fun vs n1 => Go w D c cs mm n1 (PySem.call (.ref f) vs) K) : Go w D c cs mm news (eval (.Call (.Name x np) (e :: rest) [] pos) (c.env cs)) K :=
  fun O s Q E S q => by
    have h' := Bool.and_eq_true_iff.mp hs
    refine Call_ ((Ev.glob ho hn Vl.any).go O S fun _ h1 tk1 S1 => ?_)
    refine callWith_K (first := []) O.X hk (ha O { s with heap := h1, toks := tk1 } _ E S1 fun vs n' h2 tk2 S2 g => ?_) (notStar_of h'.1) (noStars_of h'.2)
    obtain ⟨m, F, hmm, N⟩ := S2.open'
    exact ⟨O.X.keeps F.keep, g O { s with heap := h2, toks := tk2 } Q E S2 fun v n' h' tk' S' kv => q v n' h' tk' S' kv⟩
noncomputable def methIn (K : Frag) (C : Addr) (nm : Str) (f : Addr) : Bool := plainGet K C nm && (findIn K (.ref C) nm == some (some (.ref f))) && isFn K (.ref f) && keepIn K (.ref f)
/-- a method of an object of the program's classes -/
theorem Go.methA {o e : PySem.Expr} {rest : List PySem.Expr} {apos pos : Pos} {nm : Str} {x dx C f : Addr} {es : List DictEntry} {n : Nat} {K : Value → Led → Prop} (ho : Go w D c cs mm news (eval o (c.env cs)) fun v n1 => v = .ref x ∧ (x, instObj C dx) ∈ n1 ∧ (dx, dictOf es n) ∈ n1 ∧ getL nm es = some none ∧ methIn (KF w.params) C nm f = true ∧
      EvA w D c cs mm n1 pos (e :: rest) fun vs n2 => Go w D c cs mm n2 (PySem.call (.ref f) (.ref x :: vs)) K) (hc : methOk o apos pos (e :: rest) = true) : Go w D c cs mm news (eval (.Call (.Attribute o nm apos) (e :: rest) [] pos) (c.env cs)) K :=
  fun O s Q E S q => by
    have hs := (Bool.and_eq_true_iff.mp (Bool.and_eq_true_iff.mp hc).1).2
    have hs' := Bool.and_eq_true_iff.mp hs
    refine MethodCall_ (ho O s _ E S fun v n1 h1 tk1 S1 ⟨hv, hi, hd, hg, hM, ha⟩ => ?_) (meth_eq hc)
    subst hv
    unfold methIn at hM
    have a := Bool.and_eq_true_iff.mp hM
    have b := Bool.and_eq_true_iff.mp a.1
    have d := Bool.and_eq_true_iff.mp b.1
    obtain ⟨m, F, hmm, N⟩ := S1.open'
    refine method_inst F O.X (InstAt.of_news N hi hd) d.1 (beq_iff_eq.mp d.2) b.2 hg ?_
    refine callWith_K (first := [.ref x]) O.X a.2 (ha O { s with heap := h1, toks := tk1 } _ E S1 fun vs n' h2 tk2 S2 g => ?_) (notStar_of hs'.1) (noStars_of hs'.2)
    obtain ⟨m, F, hmm, N⟩ := S2.open'
    exact ⟨O.X.keeps F.keep, g O { s with heap := h2, toks := tk2 } Q E S2 fun v n' h' tk' S' kv => q v n' h' tk' S' kv⟩
/-- an item of a dict of the ledger by a text -/
theorem Ev.ditem {value slice : PySem.Expr} {pos : Pos} {a : Addr} {ob : Obj} {kvs : List (Str × Value)} {k : Str} {v : Value} {V : Tok → Value} (hv : Ev w D c cs mm news value fun _ => .ref a) (hs : Ev w D c cs mm news slice fun t => .str k t)
    (hm : (a, ob) ∈ news) (hd : ob.IsDictOf (strKind pg w) kvs) (hl : valueAt kvs k = some v) (hV : Vl v V) (hn : notSlice slice = true) : Ev w D c cs mm news (.Subscript value slice pos) V :=
  fun O s Q E S q => by
    refine Subscript_ (hv.go O S fun t g1 tk1 S1 => hs.go O S1 fun u g2 tk2 S2 => ?_)
    have hsb : subscripted slice false (.ref a) (.str k u) = operate [.ref a, .str k u] (getItem (.ref a) (.str k u)) := by cases slice <;> first | rfl | cases hn
    have hD := kda_dict (s := { s with heap := g2, toks := tk2 }) S2.news hm hd
    exact tail_any hD.typeIs slot_dict_getitem.lookup (wpAny_getItem_of (strKind_is _ _ _ _) hD.mapOf hl (q _ news g2 _ S2 ⟨rfl, hV⟩)) hsb
/-- the same by a number -/
theorem Ev.ditemI {value slice : PySem.Expr} {pos : Pos} {a : Addr} {ob : Obj} {kvs : List (Int × Value)} {k : Int} {v : Value} {V : Tok → Value} (hv : Ev w D c cs mm news value fun _ => .ref a) (hs : Ev w D c cs mm news slice fun t => .int k t)
    (hm : (a, ob) ∈ news) (hd : ob.IsDictOf (intKind pg w) kvs) (hl : valueAt kvs k = some v) (hV : Vl v V) (hn : notSlice slice = true) : Ev w D c cs mm news (.Subscript value slice pos) V :=
  fun O s Q E S q => by
    refine Subscript_ (hv.go O S fun t g1 tk1 S1 => hs.go O S1 fun u g2 tk2 S2 => ?_)
    have hsb : subscripted slice false (.ref a) (.int k u) = operate [.ref a, .int k u] (getItem (.ref a) (.int k u)) := by cases slice <;> first | rfl | cases hn
    have hD := kda_dict (s := { s with heap := g2, toks := tk2 }) S2.news hm hd
    exact tail_any hD.typeIs slot_dict_getitem.lookup (wpAny_getItem_of (intKind_is _ _ _ _) hD.mapOf hl (q _ news g2 _ S2 ⟨rfl, hV⟩)) hsb
end
section
variable {w : World} {D : Nat} {c : Cx} {cs : Scope} {mm : Locs} {news : Led}
/-- a def of the program by its name; its contract may speak of the arguments' tokens -/
theorem Go.callT {x : Str} {np pos : Pos} {e : PySem.Expr} {rest : List PySem.Expr} {f : Addr} {Vs : List (Tok → Value)} {d : Nat} {pre : (Nat → Tok) → Led → Prop} {T : (Nat → Tok) → Led → (Value → Led → Prop) → Prop} {K : Value → Led → Prop}
    (ho : globOk cs x = true) (hn : nsIn (KF w.params) mainGlobals x = some (some (.ref f))) (hk : keepIn (KF w.params) (.ref f) = true) (ha : EvL w D c cs mm news pos (e :: rest) Vs) (C : ∀ τ, CC w d f (app Vs τ) (pre τ) (T τ)) (hs : noStars (e :: rest) = true) (hd : d ≤ D)
    (hp : ∀ τ, pre τ news) (hm : ∀ (τ : Nat → Tok) (k k' : Value → Led → Prop), (∀ v n, k v n → k' v n) → T τ news k → T τ news k') (h : ∀ τ, T τ news K) : Go w D c cs mm news (eval (.Call (.Name x np) (e :: rest) [] pos) (c.env cs)) K :=
  Go.callA ho hn hk hs (Go.mono ha fun vs n' ⟨e1, τ, e2⟩ => by
    subst e1; subst e2
    exact Go.ctr (C τ) hd (hp τ) (hm τ) (h τ))
/-- an attribute of what an expression hands back -/
theorem Go.attr {value : PySem.Expr} {pos : Pos} {name : Str} {K : Value → Led → Prop} (hv : Go w D c cs mm news (eval value (c.env cs)) fun v n1 => ∃ x dx C es n r, v = .ref x ∧ (x, instObj C dx) ∈ n1 ∧ (dx, dictOf es n) ∈ n1 ∧ getL name es = some (some r) ∧ attrOk (KF w.params) C name = true ∧ handedIn r = true ∧ K r n1)
    (hc : notCall value = true) : Go w D c cs mm news (eval (.Attribute value name pos) (c.env cs)) K :=
  fun O s Q E S q => by
    refine Attribute_any_ (hv O s _ E S fun v n1 h1 tk1 S1 ⟨x, dx, C, es, n, r, e, hi, hd, hg, ho, hh, hk⟩ => ?_) (attr_eq hc)
    subst e
    obtain ⟨m, F, hm, N⟩ := S1.open'
    unfold attrOk at ho
    have o := Bool.and_eq_true_iff.mp ho
    have o' := Bool.and_eq_true_iff.mp o.1
    cases hf : findIn (KF w.params) (.ref C) name with
    | none => rw [hf] at o; cases o.2
    | some at' =>
      rw [hf] at o
      exact get_own F O.X (InstAt.of_news N hi hd) o'.1 o'.2 hf o.2 hg hh (q _ n1 h1 _ S1 hk)
end
section
variable {w : World} {D : Nat} {c : Cx} {cs : Scope} {mm : Locs} {news : Led}
open PySem.SeqAt in
theorem Go.eqPair {a b : Addr} {x y : Int} {t u t' u' : Tok} {K : Value → Led → Prop} (ha : (a, tp [.int x t, .int y u]) ∈ news) (hb : (b, tp [.int x t', .int y u']) ∈ news) (h : K (.bool true) news) : Go w D c cs mm news (compareOp .Eq (.ref a) (.ref b)) K :=
  Go.raw fun O s Q E m F hm N q => by
    have ta : s.heap.IsTuple a [Value.int x t, Value.int y u].toArray := ⟨_, (N _ ha).1, rfl, 0, rfl⟩
    have tb : s.heap.IsTuple b [Value.int x t', Value.int y u'].toArray := ⟨_, (N _ hb).1, rfl, 0, rfl⟩
    have z := RcAt.tuples (A := c.ar cs) (s := s) (e := fun _ => true) ta tb (by have := O.ru; show c.un < cLine; omega) (fun j h1 h2 => by
      have hj : j = 0 ∨ j = 1 := by
        have : j < 2 := by simpa using h1
        omega
      rcases hj with rfl | rfl
      · have y := EqAt.int_int (A := (c.ar cs).in1) (s := s) x t x t'
        rw [beq_self_eq_true] at y
        exact y
      · have y' := EqAt.int_int (A := (c.ar cs).in1) (s := s) y u y u'
        rw [beq_self_eq_true] at y'
        exact y')
    have e : ((List.range (min [Value.int x t, Value.int y u].toArray.size [Value.int x t', Value.int y u'].toArray.size)).all (fun _ => true) && [Value.int x t, Value.int y u].toArray.size == [Value.int x t', Value.int y u'].toArray.size) = true := by simp
    rw [e] at z
    exact cmp_ofEq (z pg w E Q (q _ news s.heap s.toks m F hm N h))
open PySem.SeqAt in
theorem Go.eqOne {a b : Addr} {x : Int} {t t' : Tok} {n n' : Nat} {K : Value → Led → Prop} (ha : (a, listOf [Value.int x t].toArray n) ∈ news) (hb : (b, listOf [Value.int x t'].toArray n') ∈ news) (h : K (.bool true) news) : Go w D c cs mm news (compareOp .Eq (.ref a) (.ref b)) K :=
  Go.raw fun O s Q E m F hm N q => by
    have ta : s.heap.IsList a [Value.int x t].toArray := ⟨_, (N _ ha).1, rfl, n, rfl⟩
    have tb : s.heap.IsList b [Value.int x t'].toArray := ⟨_, (N _ hb).1, rfl, n', rfl⟩
    have z := RcAt.lists (A := c.ar cs) (s := s) (e := fun _ => true) ta tb rfl (by have := O.ru; show c.un < cLine; omega) (fun j h1 h2 => by
      have hj : j = 0 := by
        have : j < 1 := by simpa using h1
        omega
      subst hj
      have y := EqAt.int_int (A := (c.ar cs).in1) (s := s) x t x t'
      rw [beq_self_eq_true] at y
      exact y)
    have e : ((List.range [Value.int x t].toArray.size).all (fun _ => true)) = true := by simp
    rw [e] at z
    exact cmp_ofEq (z pg w E Q (q _ news s.heap s.toks m F hm N h))
/-- a compare of what turns the ledger -/
theorem Go.cmp {op : CmpOp} {l r : PySem.Expr} {pos : Pos} {K : Value → Led → Prop} (hl : Go w D c cs mm news (eval l (c.env cs)) fun v n1 => Go w D c cs mm n1 (eval r (c.env cs)) fun u n2 => Go w D c cs mm n2 (compareOp op v u) K) (hm : behOk op r = true) : Go w D c cs mm news (eval (.Compare l [op] [r] pos) (c.env cs)) K :=
  fun O s Q E S q => wpAny_Compare1 (hl O s _ E S fun v n1 h1 tk1 S1 g1 => g1 O { s with heap := h1, toks := tk1 } _ E S1 fun u n2 h2 tk2 S2 g2 => g2 O { s with heap := h2, toks := tk2 } Q E S2 fun v n' h' tk' S' kv => q v n' h' tk' S' kv) (behOk_of hm)
/-- an item of a tuple that comes out of a call -/
theorem Go.item {value slice : PySem.Expr} {pos : Pos} {K : Value → Led → Prop} (hv : Go w D c cs mm news (eval value (c.env cs)) fun v n1 => ∃ a l k j r, v = .ref a ∧ (a, tp l) ∈ n1 ∧ Ev w D c cs mm n1 slice (fun t => .int k t) ∧ seqIndex? k l.length = some j ∧ (decide (-(2 ^ 63) ≤ k) && decide (k < 2 ^ 63)) = true ∧ l[j]? = some r ∧ K r n1)
    (hn : notSlice slice = true) : Go w D c cs mm news (eval (.Subscript value slice pos) (c.env cs)) K :=
  fun O s Q E S q => by
    refine Subscript_ (hv O s _ E S fun v n1 h1 tk1 S1 ⟨a, l, k, j, r, e, hm, hs, hj, hk, hx, hK⟩ => ?_)
    subst e
    refine hs.go (s := { s with heap := h1, toks := tk1 }) O S1 fun u g2 tk2 S2 => ?_
    have h := Bool.and_eq_true_iff.mp hk
    exact item_tupleT ⟨_, (S2.news _ hm).1, rfl, 0, rfl⟩ (of_decide_eq_true h.1) (of_decide_eq_true h.2) hj hx (q _ n1 g2 tk2 S2 hK) (subscripted_int hn)
/-- an assignment of a whole number out of a call -/
theorem Wb.assignI {x : Str} {px pos : Pos} {value : PySem.Expr} {rest : List Stmt} {kn : Locs → Led → Prop} {k : Value → Led → Prop} (h : Go w D c cs mm news (eval value (c.env cs)) fun v n' => ∃ V, Vl v V ∧ Wb w D c cs ((x, V) :: mm) n' rest kn k) (ho : locOk cs x = true)
    (hs : swapsWith value (some (.Name x px)) pos.line (c.env cs) = pure false) : Wb w D c cs mm news (.Assign [.Name x px] value pos :: rest) kn k := Wb.assignG h ho hs
/-- if X != e: return ... where X turns the ledger and equals e -/
theorem Wb.ifNe {op : CmpOp} {l r : PySem.Expr} {p0 pos : Pos} {body rest : List Stmt} {kn : Locs → Led → Prop} {k : Value → Led → Prop} (hl : Go w D c cs mm news (eval l (c.env cs)) fun v n1 => ∃ V U, Vl v V ∧ Ev w D c cs mm n1 r U ∧ Cmp w D c cs mm n1 op V U false ∧ Wb w D c cs mm n1 rest kn k)
    (hm : behOk op r = true) : Wb w D c cs mm news (.If (.Compare l [op] [r] p0) body [] pos :: rest) kn k :=
  Wb.ifGF0 (Go.tcmp (Go.mono hl fun v n1 ⟨V, U, a, b, e, g⟩ => ⟨V, U, false, a, b, e, rfl, g⟩) hm)
theorem Cmp.neI {a b : Int} (h : a = b) : Cmp w D c cs mm news .NotEq (fun t => .int a t) (fun t => .int b t) false := by
  have := Cmp.ne (w := w) (D := D) (c := c) (cs := cs) (mm := mm) (news := news) (a := a) (b := b)
  rw [decide_eq_false (fun q => q h)] at this
  exact this
/-- a method of an object that an expression makes -/
theorem Go.methE {o e : PySem.Expr} {rest : List PySem.Expr} {apos pos : Pos} {nm : Str} {K : Value → Led → Prop} (ho : Go w D c cs mm news (eval o (c.env cs)) fun v n1 => ∃ x dx C f es n, v = .ref x ∧ (x, instObj C dx) ∈ n1 ∧ (dx, dictOf es n) ∈ n1 ∧ getL nm es = some Option.none ∧ methIn (KF w.params) C nm f = true ∧
      EvA w D c cs mm n1 pos (e :: rest) fun vs n2 => Go w D c cs mm n2 (PySem.call (.ref f) (.ref x :: vs)) K) (hc : methOk o apos pos (e :: rest) = true) : Go w D c cs mm news (eval (.Call (.Attribute o nm apos) (e :: rest) [] pos) (c.env cs)) K :=
  fun O s Q E S q => by
    have hs := (Bool.and_eq_true_iff.mp (Bool.and_eq_true_iff.mp hc).1).2
    have hs' := Bool.and_eq_true_iff.mp hs
    refine MethodCall_ (ho O s _ E S fun v n1 h1 tk1 S1 ⟨x, dx, C, f, es, n, hv, hi, hd, hg, hM, ha⟩ => ?_) (meth_eq hc)
    subst hv
    unfold methIn at hM
    have a := Bool.and_eq_true_iff.mp hM
    have b := Bool.and_eq_true_iff.mp a.1
    have d := Bool.and_eq_true_iff.mp b.1
    obtain ⟨m, F, hmm, N⟩ := S1.open'
    refine method_inst F O.X (InstAt.of_news N hi hd) d.1 (beq_iff_eq.mp d.2) b.2 hg ?_
    refine callWith_K (first := [.ref x]) O.X a.2 (ha O { s with heap := h1, toks := tk1 } _ E S1 fun vs n' h2 tk2 S2 g => ?_) (notStar_of hs'.1) (noStars_of hs'.2)
    obtain ⟨m, F, hmm, N⟩ := S2.open'
    exact ⟨O.X.keeps F.keep, g O { s with heap := h2, toks := tk2 } Q E S2 fun v n' h' tk' S' kv => q v n' h' tk' S' kv⟩
end
theorem attrOk_of {K : Frag} {C : Addr} {name : Str} {at' : Option Value} (h1 : plainGet K C name = true) (h2 : hasDictIn K C = true) (h3 : findIn K (.ref C) name = some at') (h4 : noGet K at' = true) : attrOk K C name = true := by
  unfold attrOk
  rw [h1, h2, h3]
  exact h4
theorem memHd {α : Type} {x : α} {l : List α} : x ∈ x :: l := List.Mem.head _
theorem orP {p q : Prop} [Decidable p] [Decidable q] (h : p ∨ q) : (decide p || (decide q || false)) = true := by rcases h with h | h <;> simp [h]
section
variable {w : World} {D : Nat} {c : Cx} {cs : Scope} {mm : Locs} {news : Led}
theorem Cmp.neS {a : Str} : Cmp w D c cs mm news .NotEq (fun t => .str a t) (fun t => .str a t) false :=
  fun _ _ => Go.raw fun _ s _ _ m F hm N q => PyProof.Rows.ne_str (q _ news s.heap s.toks m F hm N ⟨rfl, by simp⟩)
theorem Cmp.eqS {a : Str} : Cmp w D c cs mm news .Eq (fun t => .str a t) (fun t => .str a t) true :=
  fun _ _ => Go.raw fun _ s _ _ m F hm N q => PyProof.Rows.eq_str (q _ news s.heap s.toks m F hm N ⟨rfl, by simp⟩)
theorem Go.torF {x : PySem.Expr} {rest : List PySem.Expr} {pos : Pos} {e' : Sem Value} {K : Bool → Led → Prop} {b : Bool} (hx : Go w D c cs mm news (isTrue x (c.env cs) (eval x (c.env cs))) fun a n1 => a = false ∧ Tst w D c cs mm n1 (.BoolOp .Or rest pos) b ∧ K b n1) : Go w D c cs mm news (isTrue (.BoolOp .Or (x :: rest) pos) (c.env cs) e') K :=
  fun O s Q E S q => isTrue_or (hx O s _ E S fun v n1 h1 tk1 S1 ⟨e1, h, hk⟩ => by
    subst e1
    exact h _ rfl O { s with heap := h1, toks := tk1 } Q E S1 fun v n' h' tk' S' ⟨e1, e2⟩ => by
      subst e1; subst e2
      exact q _ _ h' tk' S' hk)
/-- if X != e or ..: return .. where X turns the ledger and equals e -/
theorem Wb.ifNeOr {op : CmpOp} {l r : PySem.Expr} {es : List PySem.Expr} {p0 p1 pos : Pos} {body rest : List Stmt} {kn : Locs → Led → Prop} {k : Value → Led → Prop} (hl : Go w D c cs mm news (eval l (c.env cs)) fun v n1 => ∃ V U, Vl v V ∧ Ev w D c cs mm n1 r U ∧ Cmp w D c cs mm n1 op V U false ∧ Tst w D c cs mm n1 (.BoolOp .Or es p1) false ∧ Wb w D c cs mm n1 rest kn k)
    (hm : behOk op r = true) : Wb w D c cs mm news (.If (.BoolOp .Or (.Compare l [op] [r] p0 :: es) p1) body [] pos :: rest) kn k :=
  Wb.ifGF0 (Go.torF (Go.tcmp (Go.mono hl fun v n1 ⟨V, U, a, b, e, t, g⟩ => ⟨V, U, false, a, b, e, rfl, t, rfl, g⟩) hm))
structure IfD (b : Bool) (P1 P2 : Prop) : Prop where
  yes : b = true → P1
  no : b = false → P2
theorem IfD.t {b : Bool} {P1 P2 : Prop} (h : b = true) (p : P1) : IfD b P1 P2 := ⟨fun _ => p, fun e => absurd (h.symm.trans e) (by decide)⟩
theorem IfD.f {b : Bool} {P1 P2 : Prop} (h : b = false) (p : P2) : IfD b P1 P2 := ⟨fun e => absurd (h.symm.trans e) (by decide), fun _ => p⟩
theorem Wb.ifD0 {test : PySem.Expr} {body rest : List Stmt} {pos : Pos} {b : Bool} {kn : Locs → Led → Prop} {k : Value → Led → Prop} (h : Tst w D c cs mm news test b)
    (d : IfD b (Wb w D c cs mm news body (fun mm' n' => Wb w D c cs mm' n' rest kn k) k) (Wb w D c cs mm news rest kn k)) : Wb w D c cs mm news (.If test body [] pos :: rest) kn k := Wb.if0 h d.yes d.no
theorem Wb.ifD {test : PySem.Expr} {body orelse rest : List Stmt} {pos : Pos} {b : Bool} {kn : Locs → Led → Prop} {k : Value → Led → Prop} (h : Tst w D c cs mm news test b)
    (d : IfD b (Wb w D c cs mm news body (fun mm' n' => Wb w D c cs mm' n' rest kn k) k) (Wb w D c cs mm news orelse (fun mm' n' => Wb w D c cs mm' n' rest kn k) k)) : Wb w D c cs mm news (.If test body orelse pos :: rest) kn k := Wb.iff h d.yes d.no
theorem Ev.ternD {test body orelse : PySem.Expr} {pos : Pos} {b : Bool} {V : Tok → Value} (h : Tst w D c cs mm news test b) (d : IfD b (Ev w D c cs mm news body V) (Ev w D c cs mm news orelse V)) : Ev w D c cs mm news (.IfExp test body orelse pos) V := Ev.tern h d.yes d.no
inductive OrD (a : Bool) (T : Bool → Prop) : Bool → Prop
  | t (h : a = true) : OrD a T true
  | f {r : Bool} (h : a = false) (t : T r) : OrD a T r
  | both {b : Bool} (t : T b) : OrD a T (a || b)
inductive AndD (a : Bool) (T : Bool → Prop) : Bool → Prop
  | f (h : a = false) : AndD a T false
  | t {r : Bool} (h : a = true) (t : T r) : AndD a T r
  | both {b : Bool} (t : T b) : AndD a T (a && b)
theorem Tst.orD {x : PySem.Expr} {rest : List PySem.Expr} {pos : Pos} {a r : Bool} (h : Tst w D c cs mm news x a) (d : OrD a (Tst w D c cs mm news (.BoolOp .Or rest pos)) r) : Tst w D c cs mm news (.BoolOp .Or (x :: rest) pos) r := by
  cases d with
  | t e => exact Tst.orT h e
  | f e g => exact Tst.orF h e g
  | both g => exact Tst.or h fun _ => g
theorem Tst.andD {x : PySem.Expr} {rest : List PySem.Expr} {pos : Pos} {a r : Bool} (h : Tst w D c cs mm news x a) (d : AndD a (Tst w D c cs mm news (.BoolOp .And rest pos)) r) : Tst w D c cs mm news (.BoolOp .And (x :: rest) pos) r := by
  cases d with
  | f e => exact Tst.andF h e
  | t e g => exact Tst.andT h e g
  | both g => exact Tst.and h fun _ => g
/-- what an item by a number hands back -/
inductive SubD (w : World) (news : Led) (a : Addr) (k : Int) (V : Tok → Value) : Prop
  | tup {l : List Value} {j : Nat} {v : Value} (hm : (a, tp l) ∈ news) (hj : seqIndex? k l.length = some j) (hk : (decide (-(2 ^ 63) ≤ k) && decide (k < 2 ^ 63)) = true) (hx : l[j]? = some v) (hV : Vl v V)
  | tupE {l : List Value} {v : Value} (hm : (a, tp l) ∈ news) (h0 : 0 ≤ k) (h1 : k < 2 ^ 63) (hx : l[k.toNat]? = some v) (hV : Vl v V)
  | lst {l : List Value} {n : Nat} {v : Value} (hm : (a, listOf l.toArray n) ∈ news) (h0 : 0 ≤ k) (h1 : k < 2 ^ 63) (hx : l[k.toNat]? = some v) (hV : Vl v V)
  | dic {ob : Obj} {kvs : List (Int × Value)} {v : Value} (hm : (a, ob) ∈ news) (hd : ob.IsDictOf (intKind pg w) kvs) (hl : valueAt kvs k = some v) (hV : Vl v V)
theorem Ev.itm {value slice : PySem.Expr} {pos : Pos} {a : Addr} {k : Int} {V : Tok → Value} (hv : Ev w D c cs mm news value fun _ => .ref a) (hs : Ev w D c cs mm news slice fun t => .int k t) (d : SubD w news a k V) (hn : notSlice slice = true) : Ev w D c cs mm news (.Subscript value slice pos) V := by
  cases d with
  | tup hm hj hk hx hV => exact Ev.item hv hs hm hj hk hx hV hn
  | tupE hm h0 h1 hx hV => exact Ev.itemE hv hs hm h0 h1 hx hV hn
  | lst hm h0 h1 hx hV => exact Ev.itemV hv hs hm h0 h1 hx hV hn
  | dic hm hd hl hV => exact Ev.ditemI hv hs hm hd hl hV hn
inductive LenD (news : Led) (a : Addr) (z : Int) : Prop
  | lst {l : List Value} {n : Nat} (hm : (a, listOf l.toArray n) ∈ news) (hz : z = l.length) (hf : z < 2 ^ 63)
  | tup {l : List Value} (hm : (a, tp l) ∈ news) (hz : z = l.length) (hf : z < 2 ^ 63)
theorem Ev.lenD {x : Str} {np pos : Pos} {e : PySem.Expr} {a : Addr} {z : Int} (ho : globOk cs x = true) (hn : nsIn (KF w.params) mainGlobals x = some Option.none) (hx : x = Str.ofString "len")
    (he : Ev w D c cs mm news e fun _ => .ref a) (d : LenD news a z) (hs : notStar e = true) : Ev w D c cs mm news (.Call (.Name x np) [e] [] pos) fun t => .int z t := by
  cases d with
  | lst hm hz hf => subst hz; exact Ev.len ho hn hx he hm hf hs
  | tup hm hz hf => subst hz; exact Ev.lenT ho hn hx he hm hf hs
theorem Ev.dgetN {o e : PySem.Expr} {apos pos : Pos} {a : Addr} {ob : Obj} {kvs : List (Int × Value)} {k : Int} {nm : Str} (ho : Ev w D c cs mm news o fun _ => .ref a) (he : Ev w D c cs mm news e fun t => .int k t)
    (hx : nm = Str.ofString "get") (hm : (a, ob) ∈ news) (hd : ob.IsDictOf (intKind pg w) kvs) (lo : (a == sysModules) = false) (hl : valueAt kvs k = Option.none) (hc : methOk o apos pos [e] = true) :
    Ev w D c cs mm news (.Call (.Attribute o nm apos) [e] [] pos) fun _ => .none :=
  fun O s Q E S q => by
    subst hx
    have hs : notStar e = true := by
      have := (Bool.and_eq_true_iff.mp (Bool.and_eq_true_iff.mp hc).1).2
      exact (Bool.and_eq_true_iff.mp this).1
    refine MethodCall_ (ho.go O S fun t h1 tk1 S1 => ?_) (meth_eq hc)
    refine kdg_method (knd := intKind _ _) S1.news hm hd ?_
    refine callWith_method1 ?_ (notStar_of hs) rfl
    refine args_cons (he.go O S1 fun u h2 tk2 S2 => args_nil ?_) (notStar_of hs)
    exact kdg_get1 (knd := intKind _ _) S2.news hm hd lo (intKind_is _ _ _ _) _ hl (q _ news h2 _ S2 ⟨rfl, 0, rfl⟩)
end
section
variable {w : World} {D : Nat} {c : Cx} {cs : Scope} {mm : Locs} {news : Led}
noncomputable def LocTo (m m' : Locs) : Prop := ∀ x V, m'.lookup x = some V → ∃ U, m.lookup x = some U ∧ ∀ t, Vl (U t) V
theorem LocTo.one {x : Str} {W V : Tok → Value} {m : Locs} (h : ∀ t, Vl (W t) V) : LocTo ((x, W) :: m) ((x, V) :: m) := fun y U e => by
  rw [List.lookup_cons] at e ⊢
  cases q : y == x with
  | true =>
    rw [q] at e
    have := Option.some.inj e
    subst this
    exact ⟨W, rfl, h⟩
  | false =>
    rw [q] at e
    exact ⟨U, e, fun t => ⟨t, rfl⟩⟩
theorem LocTo.two {x : Str} {W W' V : Tok → Value} {m : Locs} (h : ∀ t, Vl (W t) V) : LocTo ((x, W) :: (x, W') :: m) ((x, V) :: m) := fun y U e => by
  rw [List.lookup_cons] at e ⊢
  cases q : y == x with
  | true =>
    rw [q] at e
    have := Option.some.inj e
    subst this
    exact ⟨W, rfl, h⟩
  | false =>
    rw [q] at e
    dsimp only at e ⊢
    rw [List.lookup_cons, q]
    exact ⟨U, e, fun t => ⟨t, rfl⟩⟩
theorem LocTo.add {x : Str} {W V : Tok → Value} {m : Locs} (e : m.lookup x = some W) (h : ∀ t, Vl (W t) V) : LocTo m ((x, V) :: m) := fun y U e' => by
  rw [List.lookup_cons] at e'
  cases q : y == x with
  | true =>
    rw [q] at e'
    have := Option.some.inj e'
    subst this
    rw [beq_iff_eq.mp q]
    exact ⟨W, e, h⟩
  | false =>
    rw [q] at e'
    exact ⟨U, e', fun t => ⟨t, rfl⟩⟩
theorem Vl.i {a b : Int} (h : a = b) : ∀ t : Tok, Vl ((fun t => Value.int a t) t) fun t => .int b t := fun t => ⟨t, by rw [h]⟩
/-- a test that sets a name anew, or leaves it -/
theorem Wb.ifL {test : PySem.Expr} {body rest : List Stmt} {pos : Pos} {b : Bool} {kn : Locs → Led → Prop} {k : Value → Led → Prop} (mmJ : Locs) (h : Tst w D c cs mm news test b) (h1 : b = true → Wb w D c cs mm news body (fun m' n' => n' = news ∧ LocTo m' mmJ) k) (h2 : b = false → LocTo mm mmJ)
    (g : Wb w D c cs mmJ news rest kn k) : Wb w D c cs mm news (.If test body [] pos :: rest) kn k :=
  Wb.if0 h (fun e => (h1 e).mono (fun m' n' ⟨e, q⟩ => by subst e; exact Wb.locs q g) fun _ _ x => x) fun e => Wb.locs (h2 e) g
end
section
variable {w : World} {D : Nat} {c : Cx} {cs : Scope} {mm : Locs} {news : Led}
theorem Ev.ternI {test body orelse : PySem.Expr} {pos : Pos} {b : Bool} {x y : Int} (h : Tst w D c cs mm news test b) (h1 : Ev w D c cs mm news body fun t => .int x t) (h2 : Ev w D c cs mm news orelse fun t => .int y t) : Ev w D c cs mm news (.IfExp test body orelse pos) fun t => .int (if b = true then x else y) t :=
  Ev.tern h (fun e => by subst e; exact h1) fun e => by subst e; exact h2
theorem Ev.ternS {test body orelse : PySem.Expr} {pos : Pos} {b : Bool} {x y : Str} (h : Tst w D c cs mm news test b) (h1 : Ev w D c cs mm news body fun t => .str x t) (h2 : Ev w D c cs mm news orelse fun t => .str y t) : Ev w D c cs mm news (.IfExp test body orelse pos) fun t => .str (if b = true then x else y) t :=
  Ev.tern h (fun e => by subst e; exact h1) fun e => by subst e; exact h2
/-- an item of a tuple of numbers that is made for it, at a number that is not written -/
theorem Ev.pickL {elts : List PySem.Expr} {kk : Nat} {p0 pos : Pos} {slice : PySem.Expr} {l : List Int} {k : Int} (he : EvL w D c cs mm news p0 elts (l.map fun n t => .int n t)) (hs : ∀ n, Ev w D c cs mm n slice fun t => .int k t)
    (h0 : 0 ≤ k) (h1 : k.toNat < l.length) (hn : notSlice slice = true) (hz : decide (l.length ≤ 1000) = true) : Ev w D c cs mm news (.Subscript (.Tuple elts kk p0) slice pos) fun t => .int (l.getD k.toNat 0) t := by
  have h2 : l.length ≤ 1000 := of_decide_eq_true hz
  have hm : (l.map fun (n : Int) (t : Tok) => Value.int n t).length = l.length := List.length_map ..
  refine Ev.pick (k := k) (j := k.toNat) he hs (seqAt h0 (by rw [hm]; exact h1)) ?_ ?_ hn (decide_eq_true (by rw [hm, sizeLine_eq]; omega))
  · rw [Bool.and_eq_true, decide_eq_true_eq, decide_eq_true_eq]
    omega
  · rw [List.getElem?_map, List.getElem?_eq_getElem h1, List.getD_eq_getElem?_getD, List.getElem?_eq_getElem h1]
    rfl
end
noncomputable def intsOf : List PySem.Expr → Option (List Int)
  | [] => some []
  | .Constant (.int i) _ _ :: r => (intsOf r).map (i :: ·)
  | _ => none
theorem none_no {α : Type} {l : α} {p : Prop} (h : (none : Option α) = some l) : p := nomatch h
theorem intsOf_cons {e : PySem.Expr} {r : List PySem.Expr} {l : List Int} (h : intsOf (e :: r) = some l) : ∃ i kk p l', e = .Constant (.int i) kk p ∧ intsOf r = some l' ∧ l = i :: l' := by
  cases e with
  | Constant k kk p => cases k with
    | int i =>
      obtain ⟨l', h1, h2⟩ := Option.map_eq_some_iff.mp (show (intsOf r).map (i :: ·) = some l from h)
      exact ⟨i, kk, p, l', rfl, h1, h2.symm⟩
    | _ => exact none_no h
  | _ => exact none_no h
theorem EvL.ints {w : World} {D : Nat} {c : Cx} {cs : Scope} {mm : Locs} {news : Led} {pos : Pos} : ∀ (es : List PySem.Expr) (l : List Int), intsOf es = some l → EvL w D c cs mm news pos es (l.map fun n t => .int n t)
  | [], l, h => by cases h; exact EvL.nil
  | e :: r, l, h => by
    obtain ⟨i, kk, p, l', rfl, h1, rfl⟩ := intsOf_cons h
    exact EvL.cons Ev.int (EvL.ints _ l' h1) rfl


section
variable {w : World} {D : Nat} {c : Cx} {cs : Scope} {mm : Locs} {news : Led}
/-- two names out of a tuple of the program's own -/
theorem Wb.unpackK {x y : Str} {px py pt pos : Pos} {kk : Nat} {value : PySem.Expr} {a : Addr} {v1 v2 : Value} {V1 V2 : Tok → Value} {rest : List Stmt} {kn : Locs → Led → Prop} {k : Value → Led → Prop} (he : Ev w D c cs mm news value fun _ => .ref a) (hk : (KF w.params).lookup a = some (tp [v1, v2])) (h1 : Vl v1 V1) (h2 : Vl v2 V2)
    (ho1 : locOk cs x = true) (ho2 : locOk cs y = true) (hs : swapsWithSole [.Tuple [.Name x px, .Name y py] kk pt] value pos.line (c.env cs) = pure false) (hw : swappedStores [.Tuple [.Name x px, .Name y py] kk pt] value (c.env cs) = pure none)
    (h : Wb w D c cs ((y, V2) :: (x, V1) :: mm) news rest kn k) : Wb w D c cs mm news (.Assign [.Tuple [.Name x px, .Name y py] kk pt] value pos :: rest) kn k :=
  Wb.cons fun O s Q E S qn _ => Assign_Tuple (he.go O S fun _ g1 tk1 S1 => by
    obtain ⟨m, F, hmm, N⟩ := S1.open'
    obtain ⟨t1, rfl⟩ := h1
    obtain ⟨t2, rfl⟩ := h2
    refine PySem.W.unpackK F N O.X hk rfl rfl rfl rfl rfl fun g2 F1 N1 => ?_
    refine wpAny_assignInOrder_more (wpAny_assign_Name (storeX_L F1 N1 (fun h2 F2 N2 => ?_) O.kind (locOk_of ho1).1))
    have S2 := Sta.set hmm F2 N2
    obtain ⟨m2, F2', hmm2, N2'⟩ := S2.open'
    refine wpAny_assignInOrder_more (wpAny_assign_Name (storeX_L F2' N2' (fun h3 F3 N3 => wpAny_assignInOrder_none ?_) O.kind (locOk_of ho2).1))
    exact qn _ news h3 _ (Sta.set hmm2 F3 N3) h) hs hw
theorem Ev.orT {e1 e2 : PySem.Expr} {rest : List PySem.Expr} {pos : Pos} {a : Bool} (h : Ev w D c cs mm news e1 fun _ => .bool a) (ha : a = true) : Ev w D c cs mm news (.BoolOp .Or (e1 :: e2 :: rest) pos) fun _ => .bool true :=
  fun O s Q E S q => BoolOp_or (h.go O S fun t h1 tk1 S1 => wpAny_truthy_bool (by
    subst ha
    exact q _ news h1 tk1 S1 ⟨rfl, 0, rfl⟩))
theorem Ev.chr {x : Str} {np pos : Pos} {e : PySem.Expr} {i : Int} (ho : globOk cs x = true) (hn : nsIn (KF w.params) mainGlobals x = some Option.none) (hb : bootBuiltins x = some (.builtin "chr")) (hx : x ≠ Str.ofString "__name__")
    (he : Ev w D c cs mm news e fun t => .int i t) (h0 : 0 ≤ i) (h1 : i ≤ 1114111) (hs : notStar e = true) : Ev w D c cs mm news (.Call (.Name x np) [e] [] pos) fun t => .str ⟨#[i.toNat]⟩ t :=
  fun O s Q E S q => by
    refine Call_ ((Ev.bltn ho hn hb hx (V := fun _ => .builtin "chr") ⟨0, rfl⟩).go O S fun _ h1 tk1 S1 => ?_)
    refine callWith_method1 (first := []) ?_ (notStar_of hs) rfl
    refine args_cons (he.go O S1 fun t h2 tk2 S2 => args_nil ?_) (notStar_of hs)
    exact PyProof.Rows.chr_of_range h0 (by assumption) (q _ news h2 _ S2 ⟨rfl, .str⟩)
theorem Ev.strI {x : Str} {np pos : Pos} {e : PySem.Expr} {i : Int} (ho : globOk cs x = true) (hn : nsIn (KF w.params) mainGlobals x = some Option.none) (hb : bootBuiltins x = some (.type "str")) (hx : x ≠ Str.ofString "__name__")
    (he : Ev w D c cs mm news e fun t => .int i t) (h0 : i.natAbs.log2 < 1920) (hs : notStar e = true) : Ev w D c cs mm news (.Call (.Name x np) [e] [] pos) fun t => .str (Str.ofString (toString i)) t :=
  fun O s Q E S q => by
    refine Call_ ((Ev.bltn ho hn hb hx (V := fun _ => .type "str") ⟨0, rfl⟩).go O S fun _ h1 tk1 S1 => ?_)
    refine Pv.callWith_type1 ?_ (notStar_of hs) rfl
    refine args_cons (he.go O S1 fun t h2 tk2 S2 => args_nil ?_) (notStar_of hs)
    exact PySem.P.str_of_int h0 (q _ news h2 _ S2 ⟨rfl, .str⟩)
theorem Ev.fstr {e : PySem.Expr} {i : Int} {p1 pos : Pos} (he : Ev w D c cs mm news e fun t => .int i t) (h0 : i.natAbs.log2 < 1920) : Ev w D c cs mm news (.JoinedStr [.FormattedValue e (-1) Option.none p1] pos) fun t => .str (Str.ofString (toString i)) t :=
  fun O s Q E S q => by
    refine JoinedStr_one (FormattedValue_plain (he.go O S fun t h1 tk1 S1 => ?_))
    exact wpAny_formatField_int h0 (q _ news h1 _ S1 ⟨rfl, .str⟩)
/-- a while loop by what stands ahead of each turn; J's number falls -/
theorem Wb.while {test : PySem.Expr} {body rest : List Stmt} {pos : Pos} {kn : Locs → Led → Prop} {k : Value → Led → Prop} (J : Nat → Locs → Led → Prop) (n₀ : Nat) (h0 : J n₀ mm news)
    (turn : ∀ n m₁ n₁, J n m₁ n₁ → ∃ b, Tst w D c cs m₁ n₁ test b ∧ IfD b (Wb w D c cs m₁ n₁ body (fun m' n' => ∃ n2, n2 < n ∧ J n2 m' n') fun _ _ => False) (Wb w D c cs m₁ n₁ rest kn k)) : Wb w D c cs mm news (.While test body [] pos :: rest) kn k :=
  Wb.cons fun O s Q E S qn qr => by
    obtain ⟨m, F, hmm, N⟩ := S.open'
    refine wpAny_mono (E := fun _ _ => False) (PyProof.Rows.While_inv (fun n m₁ n₁ => ∃ mm₁, (∀ x V, mm₁.lookup x = some V → ∃ t, m₁ x = some (V t)) ∧ J n mm₁ n₁) (n₀ := n₀) F N ⟨mm, hmm, h0⟩ (fun n m₁ n₁ h₁ tk₁ F₁ N₁ ⟨mm₁, hm₁, hj⟩ => ?_) PassesOwn.never) (fun _ _ x => x) fun _ _ x => x.elim
    obtain ⟨b, ht, hi⟩ := turn n mm₁ n₁ hj
    refine ht _ rfl O { s with heap := h₁, toks := tk₁ } _ _ ⟨⟨m₁, F₁, hm₁⟩, N₁⟩ fun v n' h' tk' S' ⟨e1, e2⟩ => ?_
    subst e1; subst e2
    cases v with
    | true =>
      rw [if_pos rfl]
      refine hi.yes rfl O { s with heap := h', toks := tk' } _ _ S' (fun mm' n2 h2 tk2 S2 ⟨n3, hl, hj'⟩ => ?_) fun _ _ _ _ _ x => x.elim
      obtain ⟨m2, F2, hmm2, N2⟩ := S2.open'
      exact ⟨rfl, h2, tk2, m2, n2, n3, rfl, F2, N2, hl, mm', hmm2, hj'⟩
    | false =>
      rw [if_neg (by decide)]
      exact qn mm₁ n' h' tk' S' (hi.no rfl)
end
theorem app_ints_mem : ∀ (l : List Int) (τ : Nat → Tok) (y : Value), y ∈ app (l.map fun n t => .int n t) τ → ∃ n u, y = .int n u
  | [], _, _, h => absurd h List.not_mem_nil
  | n :: l, τ, y, h => by
    rcases List.mem_cons.mp h with rfl | h
    · exact ⟨n, _, rfl⟩
    · exact app_ints_mem l _ y h
noncomputable def isI (k : Int) (y : Value) : Bool := match y with | .int i _ => i == k | _ => false
theorem app_ints_any (k : Int) : ∀ (l : List Int) (τ : Nat → Tok), (app (l.map fun n t => .int n t) τ).any (isI k) = l.any fun x => x == k
  | [], _ => rfl
  | n :: l, τ => by
    show (isI k (.int n _) || (app _ _).any (isI k)) = ((n == k) || l.any _)
    rw [app_ints_any k l]
    rfl
section
variable {w : World} {D : Nat} {c : Cx} {cs : Scope} {mm : Locs} {news : Led}
open PySem.SeqAt in
/-- k in a written tuple of numbers -/
theorem Tst.inL {v : PySem.Expr} {elts : List PySem.Expr} {kk : Nat} {p pos : Pos} {k : Int} {l : List Int} (hv : Ev w D c cs mm news v fun t => .int k t) (he : intsOf elts = some l) (hz : decide (l.length ≤ 1000) = true) (hm : behOk .In (.Tuple elts kk p) = true) :
    Tst w D c cs mm news (.Compare v [.In] [.Tuple elts kk p] pos) (l.any fun x => x == k) :=
  fun e' _ O s Q E S q => wpAny_isTrue_Compare1 (hv.go O S fun t h1 tk1 S1 => by
    have h2 : l.length ≤ 1000 := of_decide_eq_true hz
    have hl : (l.map fun (n : Int) (t : Tok) => Value.int n t).length = l.length := List.length_map ..
    refine Go.tup (K := fun v n' => ∃ a τ, v = .ref a ∧ n' = (a, tp (app (l.map fun (n : Int) (t : Tok) => Value.int n t) τ)) :: news) (EvL.ints elts l he) (decide_eq_true (by rw [hl, sizeLine_eq]; omega)) (fun a τ _ => ⟨a, τ, rfl, rfl⟩) O { s with heap := h1, toks := tk1 } _ E S1 fun v n' h' tk' S' ⟨a, τ, e1, e2⟩ => ?_
    subst e1; subst e2
    obtain ⟨m, F, hmm, N⟩ := S'.open'
    refine in_tupleAt (A := c.ar cs) (items := (app (l.map fun (n : Int) (t : Tok) => Value.int n t) τ).toArray) (isI k) ⟨_, (N _ (.head _)).1, rfl, 0, rfl⟩ (fun y hy => ?_) ?_
    · obtain ⟨n, u, rfl⟩ := app_ints_mem l τ y (by simpa using hy)
      exact EqAt.int_int n u k t
    · refine wpAny_truthy_bool ?_
      refine q _ news h' tk' (S'.sub fun p hp => .tail _ hp) ⟨rfl, ?_⟩
      rw [← app_ints_any k l τ]
      simp) (behOk_of hm)
end
/-- an object of the ledger's instances, one attribute of it set anew: what the ledger is afterwards -/
structure SetAt (w : World) (C : Addr) (name : Str) : Prop where
  a : findIn (KF w.params) (.ref C) "__setattr__" = some (some (.builtin "object.__setattr__"))
  b : plainOver (KF w.params) C = true
  t : takerIn (KF w.params) C name = some none
  d : hasDictIn (KF w.params) C = true
section
variable {w : World} {D : Nat} {c : Cx} {cs : Scope} {mm : Locs} {news : Led}
/-- append of what turns the ledger -/
theorem Go.appendG {o e : PySem.Expr} {apos pos : Pos} {a : Addr} {l0 : List Value} {n0 : Nat} {nm : Str} {K : Value → Led → Prop} (ho : Ev w D c cs mm news o fun _ => .ref a) (h0 : (a, listOf l0.toArray n0) ∈ news)
    (hx : nm = Str.ofString "append") (he : Go w D c cs mm news (eval e (c.env cs)) fun v n1 => ∃ l n, (a, listOf l.toArray n) ∈ n1 ∧ l.length ≤ sizeLine ∧ K .none (foc a (listOf (l ++ [v]).toArray (n + 1)) n1)) (hc : methOk o apos pos [e] = true) : Go w D c cs mm news (eval (.Call (.Attribute o nm apos) [e] [] pos) (c.env cs)) K :=
  fun O s Q E S q => by
    subst hx
    have hs : notStar e = true := by
      have := (Bool.and_eq_true_iff.mp (Bool.and_eq_true_iff.mp hc).1).2
      exact (Bool.and_eq_true_iff.mp this).1
    refine MethodCall_ (ho.go O S fun t h1 tk1 S1 => ?_) (meth_eq hc)
    refine kl_method (its := l0.toArray) (n := n0) S1.news h0 PySem.F.slot_list_append PySem.F.type_list_append ?_
    refine callWith_method1 ?_ (notStar_of hs) rfl
    refine args_cons (he O { s with heap := h1, toks := tk1 } _ E S1 fun v n1 h2 tk2 S2 ⟨l, n, hm, hz, hk⟩ => args_nil ?_) (notStar_of hs)
    obtain ⟨m, F, hmm, N⟩ := S2.open'
    exact append_news (s := { s with heap := h2, toks := tk2 }) F N hm hz fun h3 F3 N3 => q .none _ h3 tk2 ⟨⟨m, F3, hmm⟩, N3⟩ hk
theorem Go.setAttr {x C dx : Addr} {es : List DictEntry} {n : Nat} {name : Str} {v v0 : Value} {K : Unit → Led → Prop} (hx : (x, instObj C dx) ∈ news) (hd : (dx, dictOf es n) ∈ news) (hg : getL name es = some (some v0)) (P : SetAt w C name) (hz : es.length ≤ 1000)
    (h : ∀ es', es'.length = es.length → getL name es' = some (some v) → (∀ y, y ≠ name → getL y es' = getL y es) → K () (foc dx (dictOf es' n) news)) : Go w D c cs mm news (PySem.setAttr (.ref x) name v) K :=
  Go.raw fun O s _ _ m F hmm N q => set_news F O.X N hx hd hg P.a P.b P.t P.d hz fun h' es' e1 e2 e3 F' N' => q _ _ h' _ m F' hmm N' (h es' e1 e2 e3)
/-- o.attr = value -/
theorem Wb.setAttr {o value : PySem.Expr} {attr : Str} {ap pos : Pos} {x C dx : Addr} {es : List DictEntry} {n : Nat} {v0 : Value} {V : Tok → Value} {rest : List Stmt} {kn : Locs → Led → Prop} {k : Value → Led → Prop} (hv : Ev w D c cs mm news value V) (ho : Ev w D c cs mm news o fun _ => .ref x) (hx : (x, instObj C dx) ∈ news) (hd : (dx, dictOf es n) ∈ news)
    (hg : getL attr es = some (some v0)) (P : SetAt w C attr) (hz : es.length ≤ 1000) (hs : swapsWith value (some (.Attribute o attr ap)) pos.line (c.env cs) = pure false)
    (h : ∀ t es', es'.length = es.length → getL attr es' = some (some (V t)) → (∀ y, y ≠ attr → getL y es' = getL y es) → Wb w D c cs mm (foc dx (dictOf es' n) news) rest kn k) : Wb w D c cs mm news (.Assign [.Attribute o attr ap] value pos :: rest) kn k :=
  Wb.cons fun O s Q E S qn _ => plainObj_wpAny_Assign_Attribute (hv.go O S fun t h1 tk1 S1 => ho.go (s := { s with heap := h1, toks := tk1 }) O S1 fun _ h2 tk2 S2 =>
    Go.setAttr (K := fun _ n' => Wb w D c cs mm n' rest kn k) hx hd hg P hz (h t) O { s with heap := h2, toks := tk2 } _ E S2 fun _ n' h' tk' S' g => qn mm n' h' tk' S' g) hs
/-- o.attr += value, of whole numbers -/
theorem Wb.augAttr {o value : PySem.Expr} {attr : Str} {ap pos : Pos} {x C dx : Addr} {es : List DictEntry} {n : Nat} {a b : Int} {t0 : Tok} {rest : List Stmt} {kn : Locs → Led → Prop} {k : Value → Led → Prop} (ho : Ev w D c cs mm news o fun _ => .ref x) (hv : Ev w D c cs mm news value fun t => .int b t) (hx : (x, instObj C dx) ∈ news) (hd : (dx, dictOf es n) ∈ news)
    (hg : getL attr es = some (some (.int a t0))) (hA : attrOk (KF w.params) C attr = true) (P : SetAt w C attr) (hz : es.length ≤ 1000)
    (h : ∀ t es', es'.length = es.length → getL attr es' = some (some (.int (a + b) t)) → (∀ y, y ≠ attr → getL y es' = getL y es) → Wb w D c cs mm (foc dx (dictOf es' n) news) rest kn k) : Wb w D c cs mm news (.AugAssign (.Attribute o attr ap) .Add value pos :: rest) kn k :=
  Wb.cons fun O s Q E S qn _ => wpAny_AugAssign_AttributeAny (ho.go O S fun _ h1 tk1 S1 => by
    obtain ⟨m, F, hmm, N⟩ := S1.open'
    unfold attrOk at hA
    have p := Bool.and_eq_true_iff.mp hA
    have p' := Bool.and_eq_true_iff.mp p.1
    cases hf : findIn (KF w.params) (.ref C) attr with
    | none => rw [hf] at p; cases p.2
    | some at' =>
      rw [hf] at p
      refine get_own (s := { s with heap := h1, toks := tk1 }) F O.X (InstAt.of_news N hx hd) p'.1 p'.2 hf p.2 hg rfl ?_
      refine hv.go (s := { s with heap := h1, toks := tk1 + 1 }) O S1 fun u h2 tk2 S2 => ?_
      refine PyProof.Rows.iadd_int (s := { s with heap := h2, toks := tk2 }) ?_
      exact Go.setAttr (K := fun _ n' => Wb w D c cs mm n' rest kn k) hx hd hg P hz (h _) O { s with heap := h2, toks := _ } _ E S2 fun _ n' h' tk' S' g => qn mm n' h' tk' S' g)
/-- d[i] = value, of a dict by numbers -/
theorem Wb.setItem {o i value : PySem.Expr} {ip pos : Pos} {d : Addr} {ob : Obj} {kvs : List (Int × Value)} {j : Int} {V : Tok → Value} {rest : List Stmt} {kn : Locs → Led → Prop} {k : Value → Led → Prop} (hv : Ev w D c cs mm news value V) (ho : Ev w D c cs mm news o fun _ => .ref d) (hi : Ev w D c cs mm news i fun t => .int j t)
    (hm : (d, ob) ∈ news) (hd : ob.IsDictOf (intKind pg w) kvs) (hz : kvs.length ≤ sizeLine) (hs : swapsWith value (some (.Subscript o i ip)) pos.line (c.env cs) = pure false)
    (h : ∀ t ob', ob'.IsDictOf (intKind pg w) (stored kvs j (V t)) → Wb w D c cs mm (foc d ob' news) rest kn k) : Wb w D c cs mm news (.Assign [.Subscript o i ip] value pos :: rest) kn k :=
  Wb.cons fun O s Q E S qn _ => wpAny_Assign_Subscript (hv.go O S fun t h1 tk1 S1 => ho.go (s := { s with heap := h1, toks := tk1 }) O S1 fun _ h2 tk2 S2 => hi.go (s := { s with heap := h2, toks := tk2 }) O S2 fun u h3 tk3 S3 => by
    obtain ⟨m, F, hmm, N⟩ := S3.open'
    exact setItem_news (s := { s with heap := h3, toks := tk3 }) F N hm hd hz fun h' o' F' N' d' => qn mm _ h' _ ⟨⟨m, F', hmm⟩, N'⟩ (h t o' d')) hs
end
theorem pick_all (rs : List Value) : kms_pick rs none none = rs := by
  unfold kms_pick
  simp [kms_lo, kms_hi]
section
variable {w : World} {D : Nat} {c : Cx} {cs : Scope} {mm : Locs} {news : Led}
/-- l[:] of a list in a name -/
theorem Go.slice {x : Str} {px pos sp : Pos} {l : Addr} {rs : List Value} {n : Nat} {K : Value → Led → Prop} (hv : Ev w D c cs mm news (.Name x px) fun _ => .ref l) (hm : (l, listOf rs.toArray n) ∈ news) (hz : rs.length ≤ sizeLine)
    (h : ∀ a, (∀ p ∈ news, p.1 < a) → K (.ref a) ((a, listOf rs.toArray 0) :: news)) : Go w D c cs mm news (eval (.Subscript (.Name x px) (.Slice none none none sp) pos) (c.env cs)) K :=
  fun O s Q E S q => by
    refine Subscript_ (hv.go O S fun t h1 tk1 S1 => wpAny_Slice ?_)
    refine wpAny_pure (wpAny_pure (wpAny_pure ?_))
    obtain ⟨m, F, hmm, N⟩ := S1.open'
    exact kms_slice_lit (s := { s with heap := h1, toks := tk1 }) (lo := none) (hi := none) F N (lstN N hm) (by kmk_part) (by kmk_part) (pick_all rs) (fun a h' F' N' lt => q _ _ h' tk1 ⟨⟨m, F', hmm⟩, N'⟩ (h a lt)) (by with_unfolding_all rfl) (fun _ => rfl) (by rw [List.size_toArray]; exact hz)
end
theorem LocTo.nil {m : Locs} : LocTo m [] := fun _ _ e => by cases e
theorem LocTo.cons' {m r : Locs} {x : Str} {U V : Tok → Value} (e : m.lookup x = some U) (h : ∀ t, Vl (U t) V) (g : LocTo m r) : LocTo m ((x, V) :: r) := fun y W e' => by
  rw [List.lookup_cons] at e'
  cases q : y == x with
  | true =>
    rw [q] at e'
    have := Option.some.inj e'
    subst this
    rw [beq_iff_eq.mp q]
    exact ⟨U, e, h⟩
  | false =>
    rw [q] at e'
    exact g y W e'


theorem putL_ref' (name : Str) (hsh : Int) (t : Tok) (v : Value) : ∀ es : List DictEntry, es.any (·.refKey) = false → (putL name hsh (.str name t) v es).any (·.refKey) = false
  | [], _ => rfl
  | e :: r, h => by
    rw [List.any_cons, Bool.or_eq_false_iff] at h
    unfold putL
    split
    · rw [List.any_cons, Bool.or_eq_false_iff]; exact h
    · rw [List.any_cons, Bool.or_eq_false_iff]; exact ⟨h.1, putL_ref' name hsh t v r h.2⟩
theorem putL_len' (name : Str) (hsh : Int) (key v : Value) : ∀ es : List DictEntry, (putL name hsh key v es).length ≤ es.length + 1
  | [] => Nat.le_refl _
  | e :: r => by
    have := putL_len' name hsh key v r
    unfold putL
    split
    · exact Nat.le_succ _
    · rw [List.length_cons, List.length_cons]; omega
theorem isStr_self (name : Str) (t : Tok) : (Value.str name t).isStr name = true := by simp [Value.isStr]
theorem putL_self' (name : Str) (hsh : Int) (t : Tok) (v : Value) : ∀ es : List DictEntry, ∃ e, (putL name hsh (.str name t) v es).find? (·.key.isStr name) = some e ∧ e.val = v
  | [] => ⟨⟨hsh, .str name t, v⟩, by unfold putL; rw [List.find?_cons, isStr_self], rfl⟩
  | e :: r => by
    obtain ⟨x, h1, h2⟩ := putL_self' name hsh t v r
    unfold putL
    cases q : e.key.isStr name with
    | true => exact ⟨⟨e.hash, e.key, v⟩, by rw [if_pos rfl, List.find?_cons, q], rfl⟩
    | false => exact ⟨x, by rw [if_neg (by decide), List.find?_cons, q]; exact h1, h2⟩
theorem putL_other' (name y : Str) (hy : y ≠ name) (hsh : Int) (t : Tok) (v : Value) : ∀ es : List DictEntry, ((putL name hsh (.str name t) v es).find? (·.key.isStr y)).map (·.val) = (es.find? (·.key.isStr y)).map (·.val)
  | [] => by unfold putL; rw [List.find?_cons, isStr_apart hy _ (isStr_self name t)]
  | e :: r => by
    have ih := putL_other' name y hy hsh t v r
    unfold putL
    cases q : e.key.isStr name with
    | true => rw [if_pos rfl, List.find?_cons, List.find?_cons, isStr_apart hy _ q]
    | false =>
      rw [if_neg (by decide), List.find?_cons, List.find?_cons]
      cases e.key.isStr y with
      | true => rfl
      | false => exact ih
/-- an object while its `__init__` lays it: its dict's entries and the rest of the ledger unsaid -/
structure Bld (C : Addr) (n0 news : List (Addr × Obj)) (x d : Addr) (es : List DictEntry) (en c : Nat) : Prop where
  sub : ∀ p ∈ n0, p ∈ news
  lt : ∀ p ∈ n0, @LT.lt Nat _ p.1 d
  dx : @LT.lt Nat _ d x
  inst : (x, instObj C d) ∈ news
  dict : (d, dictOf es en) ∈ news
  nr : es.any (·.refKey) = false
  len : es.length ≤ c
theorem Bld.up {C : Addr} {n0 n1 n2 : List (Addr × Obj)} {x d : Addr} {es : List DictEntry} {en c : Nat} (B : Bld C n0 n1 x d es en c) (s : ∀ p ∈ n1, p ∈ n2) : Bld C n0 n2 x d es en c :=
  ⟨fun p hp => s p (B.sub p hp), B.lt, B.dx, s _ B.inst, s _ B.dict, B.nr, B.len⟩
section
variable {w : World} {A : Around} {E : Value → Shared → Prop} {s : Shared} {h₀ : Heap} {L C x d : Addr} {m : Str → Option Value} {n0 news led : List (Addr × Obj)} {es : List DictEntry} {en c : Nat} {name : Str} {v : Value}
theorem bld_start {Q : Prop} {h : Heap} (N : News h₀ L h ((x, instObj C d) :: (d, dictOf [] 0) :: n0)) (l1 : ∀ p ∈ n0, p.1 < d) (l2 : d < x) (k : ∀ news, Bld C n0 news x d [] 0 0 → News h₀ L h news → Q) : Q :=
  k _ ⟨fun p hp => .tail _ (.tail _ hp), l1, l2, .head _, .tail _ (.head _), rfl, Nat.le_refl _⟩ N
theorem bld_set {Q : Unit → Shared → Prop} (N : News h₀ L s.heap led) (B : Bld C n0 news x d es en c) (F : Fr h₀ L s.heap m) (X₀ : (KF w.params).In h₀) (hs : ∀ p ∈ news, p ∈ led)
    (h1 : findIn (KF w.params) (.ref C) "__setattr__" = some (some (.builtin "object.__setattr__"))) (h2 : plainOver (KF w.params) C = true) (h3 : takerIn (KF w.params) C name = some none) (h4 : hasDictIn (KF w.params) C = true) (hc : c < 1000)
    (h : ∀ h' es' en' led', Bld C n0 led' x d es' en' (c + 1) → (∀ p ∈ led, p.1 ≠ d → p ∈ led') → getL name es' = some (some v) → (∀ y, y ≠ name → getL y es' = getL y es) → Fr h₀ L h' m → News h₀ L h' led' → Q () { s with heap := h', toks := s.toks + 2 }) :
    wpAny (model pg w) A (setAttr (.ref x) name v) Q E s := by
  have hd : (d, dictOf es en) ∈ led := hs _ B.dict
  have hx : (x, instObj C d) ∈ led := hs _ B.inst
  have hxd : x ≠ d := Nat.ne_of_gt B.dx
  have hr := putL_ref' name (PyData.keyHash w.params name) (s.toks + 1) v es B.nr
  have hl := putL_len' name (PyData.keyHash w.params name) (.str name (s.toks + 1)) v es
  refine set_dict (es' := putL name (PyData.keyHash w.params name) (.str name (s.toks + 1)) v es) (n' := putN name es en) F X₀ (foc_news N hd) (InstAt.of_news N hx hd) rfl h1 h2 h3 h4 ?_ rfl (Upd.head foc_ne) (by have := B.len; omega) fun h' F' N' => ?_
  · unfold getL
    rw [B.nr]
    split <;> rfl
  · refine h h' _ _ (foc d (dictOf (putL name (PyData.keyHash w.params name) (.str name (s.toks + 1)) v es) (putN name es en)) led) ⟨fun p hp => .tail _ (mem_foc (hs _ (B.sub p hp)) (Nat.ne_of_lt (B.lt p hp))), B.lt, B.dx, .tail _ (mem_foc hx hxd), .head _, hr, by have := B.len; omega⟩ (fun p hp hn => .tail _ (mem_foc hp hn)) ?_ (fun y hy => ?_) F' N'
    · obtain ⟨e, q1, q2⟩ := putL_self' name (PyData.keyHash w.params name) (s.toks + 1) v es
      unfold getL
      rw [q1, ← q2]
    · have q := putL_other' name y hy (PyData.keyHash w.params name) (s.toks + 1) v es
      unfold getL
      rw [hr, B.nr]
      cases z : (putL name (PyData.keyHash w.params name) (.str name (s.toks + 1)) v es).find? (·.key.isStr y) <;> cases z' : es.find? (·.key.isStr y) <;> rw [z, z'] at q <;> first | rfl | (cases q; done) | (simp only [Option.map_some, Option.some.injEq] at q; simp only [q])
theorem bld_dict {env : Env} {pos : Pos} {Q : Value → Shared → Prop} (N : News h₀ L s.heap led) (B : Bld C n0 news x d es en c) (F : Fr h₀ L s.heap m) (hs : ∀ p ∈ news, p ∈ led) (hbig : h₀.NoLimit)
    (h : ∀ D o h' led', Bld C n0 led' x d es en c → (∀ p ∈ led, p ∈ led') → (D, o) ∈ led' → (∀ p ∈ led, @LT.lt Nat _ p.1 D) → @LT.lt Nat _ x D → (D == sysModules) = false → o.IsDictOf (intKind pg w) [] → Fr h₀ L h' m → News h₀ L h' led' → Q (.ref D) { s with heap := h' }) :
    wpAny (model pg w) A (eval (.Dict [] [] pos) env) Q E s :=
  newDict_K F N hbig fun D h' o F' N' l lo _ _ hi _ => h D o h' _ (B.up fun p hp => .tail _ (hs p hp)) (fun p hp => .tail _ hp) (.head _) l (l _ (hs _ B.inst)) lo hi F' N'
theorem bld_list {vs : List Value} {Q : Value → Shared → Prop} (N : News h₀ L s.heap led) (B : Bld C n0 news x d es en c) (F : Fr h₀ L s.heap m) (hs : ∀ p ∈ news, p ∈ led)
    (h : ∀ D h' led', Bld C n0 led' x d es en c → (∀ p ∈ led, p ∈ led') → (D, listOf vs.toArray 0) ∈ led' → (∀ p ∈ led, @LT.lt Nat _ p.1 D) → @LT.lt Nat _ x D → Fr h₀ L h' m → News h₀ L h' led' → Q (.ref D) { s with heap := h' }) (hz : vs.length ≤ sizeLine) :
    wpAny (model pg w) A (newList vs) Q E s :=
  newList_K F N (fun D h' F' N' l => h D h' _ (B.up fun p hp => .tail _ (hs p hp)) (fun p hp => .tail _ hp) (.head _) l (l _ (hs _ B.inst)) F' N') hz
end
theorem subB {l l' : List (Addr × Obj)} {x : Addr × Obj} (k : ∀ p ∈ l, p ∈ l') (h : x ∈ l) : x ∈ l' := k _ h
theorem getM {es es' : List DictEntry} {n y : Str} {v : Option (Option Value)} (o : ∀ y, y ≠ n → getL y es' = getL y es) (hy : y ≠ n) (h : getL y es = v) : getL y es' = v := (o y hy).trans h
theorem ltB {l : List (Addr × Obj)} {a b : Addr} {o : Obj} (h : ∀ p ∈ l, @LT.lt Nat _ p.1 b) (m : (a, o) ∈ l) : @LT.lt Nat _ a b := h _ m
/-- an object that its `__init__` lays: fs the attributes that are said, ns all names, led what of the ledger is said -/
structure Bs (C : Addr) (n0 : Led) (x d : Addr) (fs : Locs) (ns : List Str) (led news : Led) : Prop where
  ex : ∃ es en, Bld C n0 news x d es en ns.length ∧ (∀ y V, fs.lookup y = some V → ∃ t, getL y es = some (some (V t))) ∧ (∀ y, ns.contains y = false → getL y es = some none)
  kn : ∀ y V, fs.lookup y = some V → ns.contains y = true
  sub : ∀ p ∈ led, p ∈ news
  ne : ∀ p ∈ led, p.1 ≠ d
noncomputable def Wi (w : World) (D : Nat) (c : Cx) (cs : Scope) (C : Addr) (n0 : Led) (x d : Addr) (mm : Locs) (fs : Locs) (ns : List Str) (led : Led) (ss : List Stmt) (k : Locs → List Str → Led → Prop) : Prop :=
  Ok w D c cs → ∀ (s : Shared) (Q : Flow → Shared → Prop) (E : Value → Shared → Prop) (news : Led), Sta c mm news s.heap → Bs C n0 x d fs ns led news →
    (∀ mm' fs' ns' led' news' h' tk', Sta c mm' news' h' → Bs C n0 x d fs' ns' led' news' → k fs' ns' led' → Q .next { s with heap := h', toks := tk' }) → wpAny (model pg w) (c.ar cs) (execs ss (c.env cs)) Q E s
theorem Bs.up {C : Addr} {n0 : Led} {x d : Addr} {fs : Locs} {ns : List Str} {led led' n1 n2 : Led} (B : Bs C n0 x d fs ns led n1) (s : ∀ p ∈ n1, p ∈ n2) (h : ∀ p ∈ led', p ∈ n2) (g : ∀ p ∈ led', p.1 ≠ d) : Bs C n0 x d fs ns led' n2 := by
  obtain ⟨es, en, B1, B2, B3⟩ := B.ex
  exact ⟨⟨es, en, B1.up s, B2, B3⟩, B.kn, h, g⟩
noncomputable def setOk (K : Frag) (C : Addr) (name : Str) : Bool := (findIn K (.ref C) "__setattr__" == some (some (.builtin "object.__setattr__"))) && plainOver K C && (takerIn K C name == some none) && hasDictIn K C
section
variable {w : World} {D : Nat} {c : Cx} {cs : Scope} {C : Addr} {n0 : Led} {x d : Addr} {mm fs : Locs} {ns : List Str} {led : Led} {k : Locs → List Str → Led → Prop}
theorem Wi.nil (h : k fs ns led) : Wi w D c cs C n0 x d mm fs ns led [] k := fun _ s _ _ news S B q => wpAny_execs_nil (q mm fs ns led news s.heap s.toks S B h)
/-- one attribute laid; the general form -/
theorem Wi.setG {self name : Str} {sp ap pos : Pos} {e : PySem.Expr} {rest : List Stmt} (hs : mm.lookup self = some fun _ => .ref x) (hl : locOk cs self = true) (hc : setOk (KF w.params) C name = true) (hn : ns.contains name = false) (hz : ns.length < 1000)
    (hsw : swapsWith e (some (.Attribute (.Name self sp) name ap)) pos.line (c.env cs) = pure false)
    (he : ∀ news, Bs C n0 x d fs ns led news → Go w D c cs mm news (eval e (c.env cs)) fun v n' => (∀ p ∈ news, p ∈ n') ∧ ∃ fs' led', (∀ p ∈ led', p ∈ n' ∧ p.1 ≠ d) ∧ (∀ y V, fs'.lookup y = some V → (y = name ∧ Vl v V) ∨ (y ≠ name ∧ fs.lookup y = some V)) ∧ Wi w D c cs C n0 x d mm fs' (name :: ns) led' rest k) :
    Wi w D c cs C n0 x d mm fs ns led (.Assign [.Attribute (.Name self sp) name ap] e pos :: rest) k :=
  fun O s Q E news S B q => by
    refine wpAny_execs_cons (plainObj_wpAny_Assign_Attribute (he news B O s _ E S fun v n' h1 tk1 S1 ⟨sub, fs', led', hled, hfs, g⟩ => ?_) hsw)
    have S1' : Sta c mm n' { s with heap := h1, toks := tk1 }.heap := S1
    refine (Ev.loc (w := w) (D := D) hs hl).go (s := { s with heap := h1, toks := tk1 }) O S1' fun _ h2 tk2 S2 => ?_
    obtain ⟨m, F, hmm, N⟩ := S2.open'
    obtain ⟨es, en, B1, B2, B3⟩ := B.ex
    unfold setOk at hc
    have a := Bool.and_eq_true_iff.mp hc
    have b := Bool.and_eq_true_iff.mp a.1
    have e1 := Bool.and_eq_true_iff.mp b.1
    refine bld_set (s := { s with heap := h2, toks := tk2 }) (news := n') (led := n') N (B1.up sub) F O.X (fun p hp => hp) (beq_iff_eq.mp e1.1) e1.2 (beq_iff_eq.mp b.2) a.2 hz ?_
    intro h3 es' en' led3 B' keep gs go F3 N3
    refine g O { s with heap := h3, toks := _ } Q E led3 ⟨⟨m, F3, hmm⟩, N3⟩ ⟨⟨es', en', B', fun y V hy => ?_, fun y hy => ?_⟩, fun y V hy => ?_, fun p hp => keep p (hled p hp).1 (hled p hp).2, fun p hp => (hled p hp).2⟩ fun mm' fs' ns' led' news' h' tk' S' B' kv => q mm' fs' ns' led' news' h' tk' S' B' kv
    · rcases hfs y V hy with ⟨rfl, t, ht⟩ | ⟨hne, hy'⟩
      · exact ⟨t, by rw [gs, ht]⟩
      · obtain ⟨t, ht⟩ := B2 y V hy'
        exact ⟨t, by rw [go y hne, ht]⟩
    · simp only [List.contains_cons, Bool.or_eq_false_iff, beq_eq_false_iff_ne, ne_eq] at hy
      rw [go y hy.1]
      exact B3 y hy.2
    · rcases hfs y V hy with ⟨rfl, _⟩ | ⟨hne, hy'⟩
      · simp
      · rw [List.contains_cons, B.kn y V hy', Bool.or_true]
end
section
variable {w : World} {D : Nat} {c : Cx} {cs : Scope} {C : Addr} {n0 : Led} {x d : Addr} {mm fs : Locs} {ns : List Str} {led : Led} {k : Locs → List Str → Led → Prop}
/-- what every laying wants of its names -/
structure Nm (w : World) (c : Cx) (cs : Scope) (C : Addr) (x : Addr) (mm : Locs) (ns : List Str) (sf name : Str) : Prop where
  hs : mm.lookup sf = some fun _ => .ref x
  hl : locOk cs sf = true
  hc : setOk (KF w.params) C name = true
  hn : ns.contains name = false
  hz : ns.length < 1000
theorem fsCons {name : Str} {V : Tok → Value} {v : Value} (hv : Vl v V) (_hn : ns.contains name = false) (_hk : ∀ y V, fs.lookup y = some V → ns.contains y = true) : ∀ y U, ((name, V) :: fs).lookup y = some U → (y = name ∧ Vl v U) ∨ (y ≠ name ∧ fs.lookup y = some U) := fun y U e => by
  rw [List.lookup_cons] at e
  cases q : y == name with
  | true =>
    rw [q] at e
    have := Option.some.inj e
    subst this
    exact .inl ⟨beq_iff_eq.mp q, hv⟩
  | false =>
    rw [q] at e
    exact .inr ⟨by simpa using q, e⟩
theorem Wi.set {self name : Str} {sp ap pos : Pos} {e : PySem.Expr} {rest : List Stmt} {V : Tok → Value} (H : Nm w c cs C x mm ns self name) (hsw : swapsWith e (some (.Attribute (.Name self sp) name ap)) pos.line (c.env cs) = pure false)
    (he : ∀ news, Bs C n0 x d fs ns led news → Ev w D c cs mm news e V) (g : Wi w D c cs C n0 x d mm ((name, V) :: fs) (name :: ns) led rest k) : Wi w D c cs C n0 x d mm fs ns led (.Assign [.Attribute (.Name self sp) name ap] e pos :: rest) k :=
  Wi.setG H.hs H.hl H.hc H.hn H.hz hsw fun news B => Go.ev (he news B) fun t => ⟨fun _ h => h, _, led, fun p hp => ⟨B.sub p hp, B.ne p hp⟩, fsCons ⟨t, rfl⟩ H.hn B.kn, g⟩
/-- a value of which nothing is said -/
theorem Wi.setJ {self name : Str} {sp ap pos : Pos} {e : PySem.Expr} {rest : List Stmt} (H : Nm w c cs C x mm ns self name) (hsw : swapsWith e (some (.Attribute (.Name self sp) name ap)) pos.line (c.env cs) = pure false)
    (he : ∀ news, Bs C n0 x d fs ns led news → Go w D c cs mm news (eval e (c.env cs)) fun _ n' => ∀ p ∈ news, p ∈ n') (g : Wi w D c cs C n0 x d mm fs (name :: ns) led rest k) : Wi w D c cs C n0 x d mm fs ns led (.Assign [.Attribute (.Name self sp) name ap] e pos :: rest) k :=
  Wi.setG H.hs H.hl H.hc H.hn H.hz hsw fun news B => Go.mono (he news B) fun v n' sub => ⟨sub, fs, led, fun p hp => ⟨sub p (B.sub p hp), B.ne p hp⟩, fun y V hy => .inr ⟨fun e => absurd (B.kn y V hy) (by rw [e, H.hn]; decide), hy⟩, g⟩
/-- an empty dict -/
theorem Go.dict {mm : Locs} {news : Led} {pos : Pos} {K : Value → Led → Prop} (h : ∀ (D : Addr) o, (∀ p ∈ news, @LT.lt Nat _ p.1 D) → (D == sysModules) = false → o.IsDictOf (intKind pg w) [] → K (.ref D) ((D, o) :: news)) : Go w D c cs mm news (eval (.Dict [] [] pos) (c.env cs)) K :=
  Go.raw fun O s _ _ m F hm N q => newDict_K F N O.top.nolimit fun D' h' o F' N' l lo _ _ hi _ => q _ _ h' s.toks m F' hm N' (h D' o l lo hi)
theorem Wi.setD {self name : Str} {sp ap pos p1 : Pos} {rest : List Stmt} (H : Nm w c cs C x mm ns self name) (hsw : swapsWith (.Dict [] [] p1) (some (.Attribute (.Name self sp) name ap)) pos.line (c.env cs) = pure false)
    (g : ∀ (a : Addr) o, (∀ p ∈ led, @LT.lt Nat _ p.1 a) → @LT.lt Nat _ x a → (a == sysModules) = false → o.IsDictOf (intKind pg w) [] → Wi w D c cs C n0 x d mm ((name, fun _ => .ref a) :: fs) (name :: ns) ((a, o) :: led) rest k) : Wi w D c cs C n0 x d mm fs ns led (.Assign [.Attribute (.Name self sp) name ap] (.Dict [] [] p1) pos :: rest) k :=
  Wi.setG H.hs H.hl H.hc H.hn H.hz hsw fun news B => Go.dict fun a o l lo hi => by
    obtain ⟨es, en, B1, _, _⟩ := B.ex
    refine ⟨fun _ h => .tail _ h, _, (a, o) :: led, fun p hp => ?_, fsCons ⟨0, rfl⟩ H.hn B.kn, g a o (fun p hp => l p (B.sub p hp)) (l _ B1.inst) lo hi⟩
    rcases List.mem_cons.mp hp with rfl | hp
    · exact ⟨.head _, Nat.ne_of_gt (l _ B1.dict)⟩
    · exact ⟨.tail _ (B.sub p hp), B.ne p hp⟩
theorem Wi.setL {self name : Str} {sp ap pos p1 : Pos} {elts : List PySem.Expr} {Vs : List (Tok → Value)} {rest : List Stmt} (H : Nm w c cs C x mm ns self name) (hsw : swapsWith (.List elts p1) (some (.Attribute (.Name self sp) name ap)) pos.line (c.env cs) = pure false)
    (he : ∀ news, Bs C n0 x d fs ns led news → EvL w D c cs mm news p1 elts Vs) (hz : decide (Vs.length ≤ sizeLine) = true)
    (g : ∀ (a : Addr) τ, (∀ p ∈ led, @LT.lt Nat _ p.1 a) → @LT.lt Nat _ x a → Wi w D c cs C n0 x d mm ((name, fun _ => .ref a) :: fs) (name :: ns) ((a, listOf (app Vs τ).toArray 0) :: led) rest k) : Wi w D c cs C n0 x d mm fs ns led (.Assign [.Attribute (.Name self sp) name ap] (.List elts p1) pos :: rest) k :=
  Wi.setG H.hs H.hl H.hc H.hn H.hz hsw fun news B => Go.list (he news B) hz fun a τ l => by
    obtain ⟨es, en, B1, _, _⟩ := B.ex
    refine ⟨fun _ h => .tail _ h, _, (a, listOf (app Vs τ).toArray 0) :: led, fun p hp => ?_, fsCons ⟨0, rfl⟩ H.hn B.kn, g a τ (fun p hp => l p (B.sub p hp)) (l _ B1.inst)⟩
    rcases List.mem_cons.mp hp with rfl | hp
    · exact ⟨.head _, Nat.ne_of_gt (l _ B1.dict)⟩
    · exact ⟨.tail _ (B.sub p hp), B.ne p hp⟩
/-- an attribute of the object itself -/
theorem Bs.attr {mm : Locs} {news : Led} {value : PySem.Expr} {pos : Pos} {name : Str} {V : Tok → Value} (B : Bs C n0 x d fs ns led news) (hv : Ev w D c cs mm news value fun _ => .ref x) (hy : fs.lookup name = some V) (ho : attrOk (KF w.params) C name = true) (hh : ∀ t, handedIn (V t) = true) (hc : notCall value = true) :
    Ev w D c cs mm news (.Attribute value name pos) V := by
  obtain ⟨es, en, B1, B2, _⟩ := B.ex
  obtain ⟨t, ht⟩ := B2 name V hy
  exact Ev.attr hv B1.inst B1.dict ht ⟨t, rfl⟩ ho (hh t) hc
theorem Bs.m {news : Led} {p : Addr × Obj} (B : Bs C n0 x d fs ns led news) (h : p ∈ led) : p ∈ news := B.sub p h
end
/-- a class's contract out of its `__init__`'s body -/
theorem cc_cls {w : World} {d : Nat} {C fI : Addr} {vs : List Value} {pre : Led → Prop} {T : Led → (Value → Led → Prop) → Prop} {name qual : Str} {params : Arguments} {body : List Stmt} {scope : Scope} {dV kV doc pm cdv ct oc : Value} {an od : Option Addr} {osl : Array (Option Value)} {mm0 : Addr → Locs} (rb : Addr → List (Str × Value))
    (hm : makesIn (KF w.params) C = true) (hi : findIn (KF w.params) (.ref C) "__init__" = some (some (.ref fI))) (hf : isFn (KF w.params) (.ref fI) = true)
    (ho : (KF w.params).lookup fI = some ⟨oc, od, .func (fnOf name qual params body scope dV kV doc pm an cdv ct), osl⟩) (hcd : codeIn (KF w.params) cdv qual = true)
    (hbind : ∀ x, bindArgs (fnOf name qual params body scope dV kV doc pm an cdv ct) ⟨.ref x :: vs, []⟩ = pure (rb x).reverse) (hB : ∀ x, VlB (rb x) (mm0 x)) (hloc : ∀ x, ((rb x).reverse.all fun y => decide (scope.names.lookup y.1 = some .local)) = true)
    (hco : scope.isCoroutine = false) (hgen : scope.isGenerator = false) (hk : scope.kind = .function) (hcell : (scope.names.all fun x => decide (x.2 ≠ .cell)) = true)
    (h : ∀ (c : Cx) (news : Led) (kz : Value → Led → Prop) (x dx : Addr), pre news → T news kz → (∀ p ∈ news, @LT.lt Nat _ p.1 dx) → @LT.lt Nat _ dx x →
      Wi w d c scope C news x dx (mm0 x) [] [] news body fun fs ns led => ∀ n', Bs C news x dx fs ns led n' → kz (.ref x) n') : CC w (d + 2) C vs pre T :=
  ⟨fun p loose mean mg mb news dp un gd cn cs a ccd cl outer A₀ base h₀ L m s Q E B F X N Tp hkk hp hd hu ht => by
    refine call_cls F X N hm hi hf fun x dx h1 F1 N1 l1 l2 => ?_
    have hN : News h₀ L h1 ((x, instObj C dx) :: (dx, dictOf [] 0) :: news) := N1
    have hA : (ktrTop dp un gd cn cs L a ccd cl outer).under (.builtin "type.__call__" ⟨.ref C :: vs, []⟩) = ktrTop (dp + 1) (un + 1) (pushGuards (Code.builtin "type.__call__" ⟨.ref C :: vs, []⟩).guards gd) cn cs L a ccd cl outer := by kernel_rfl
    rw [hA]
    refine code_def B F1 X N1 Tp (A := ktrTop (dp + 1) (un + 1) (pushGuards (Code.builtin "type.__call__" ⟨.ref C :: vs, []⟩).guards gd) cn cs L a ccd cl outer) rfl rfl hkk ho hcd (by show dp + 1 < recursionLimit; omega) (BindsTo.of_eq (hbind x)) (locs (hloc x)) ?_ hco hgen hk (fun y hy => of_decide_eq_true (List.all_eq_true.mp hcell y hy))
    intro g L' h₁ FG F' N' B' X' T'
    have H := h ⟨p, loose, mean, mg, mb, dp + 1 + 1, un + 1 + 3, (pushGuards (Code.builtin "type.__call__" ⟨.ref C :: vs, []⟩).guards gd), qual, fI, cdv, envX cn cs L a ccd cl :: outer, _, base, g, L'⟩ news _ x dx hp ht l1 l2 ⟨B', X', T', hk, by show dp + 1 + 1 + d < recursionLimit; omega, by show un + 1 + 3 + 8 * d < cLine; omega⟩
    refine H _ _ _ ((x, instObj C dx) :: (dx, dictOf [] 0) :: news) ?S ?B ?q
    case S => exact ⟨⟨_, F', fun y V e => by
      show ∃ t, (rb x).reverse.reverse.lookup y = some (V t)
      rw [List.reverse_reverse]
      exact (hB x).lookup e⟩, N'⟩
    case B => exact ⟨⟨[], 0, ⟨fun p hp => .tail _ (.tail _ hp), l1, l2, .head _, .tail _ (.head _), rfl, Nat.le_refl _⟩, fun y V e => (by cases e), fun _ _ => rfl⟩, fun y V e => (by cases e), fun p hp => .tail _ (.tail _ hp), fun p hp => Nat.ne_of_lt (l1 p hp)⟩
    case q =>
      intro mm' fs' ns' led' n' h' tk' S' B2 kv
      obtain ⟨m', F2, _, N2⟩ := S'.open'
      refine leaveK_ F2 N2 fun F3 N3 => ?_
      exact ⟨rfl, kv n' B2 h' tk' F3 N3⟩⟩


theorem drv_p1 : True := by
  k_with_none
  k_with "m" => first | with_reducible exact memHd | with_reducible assumption | ((with_reducible show _ ∈ _ :: _); exact List.mem_cons_of_mem _ (by k_extra "m")) | exact Wd.mem (by with_reducible assumption) _ _ (by exact rfl) | exact Fz.mem (by k_extra "fz") | fail
  k_with "fz" => first | with_reducible assumption | exact Fz.ext2 (by with_reducible assumption) (by k_extra "fz") | fail
  k_with "is" => first | exact Vl.int | exact Vl.str | exact Vl.any | fail
  k_with "isb" => first | exact VlB.nil | exact VlB.cons (by k_extra "is") (by k_extra "isb") | fail
  k_with "ix" => first | with_reducible assumption | exact rfl | fail
  k_with "dv" => first | with_reducible exact wv_ev _ | with_reducible exact wv_m _ | with_reducible exact wv_kept _ | exact rfl | fail
  k_with "at" => first | exact attrOk_of (by k_is) (by k_is) (by k_is) (by k_is) | fail
  k_with "g" => first | assumption | fail
  k_with "int" => first | decide | omega | fail
  k_with "lg" => first | exact shown (N := 2 ^ 1920) (by omega) (by omega) (Int.le_refl _) | fail
  k_with "nz" => first | decide | omega | fail
  k_with "log" => first | decide | fail
  k_with "abs" => first | decide | omega | fail
  k_with "mul" => first | mul_fits | fail
  k_with "dict" => first | assumption | fail
  k_with "cc" => first | fail | fail
  k_with "fit" => first | decide | omega | ((try simp only [List.length_append, List.length_cons, List.length_nil, List.length_map]); omega) | fail
  k_with "dg" => first | assumption | fail
  k_with "pre" => first | trivial | assumption | omega | (repeat' refine And.intro ?_ ?_ <;> first | assumption | trivial | omega) | fail
  k_with "c" => first
    | ((with_reducible show Cmp _ _ _ _ _ _ CmpOp.Eq _ _ _); k_extra "ceq")
    | ((with_reducible show Cmp _ _ _ _ _ _ CmpOp.NotEq _ _ _); k_extra "cne")
    | ((with_reducible show Cmp _ _ _ _ _ _ CmpOp.Lt _ _ _); exact Cmp.lt)
    | ((with_reducible show Cmp _ _ _ _ _ _ CmpOp.LtE _ _ _); exact Cmp.le)
    | ((with_reducible show Cmp _ _ _ _ _ _ CmpOp.Gt _ _ _); exact Cmp.gt)
    | ((with_reducible show Cmp _ _ _ _ _ _ CmpOp.GtE _ _ _); exact Cmp.ge)
    | ((with_reducible show Cmp _ _ _ _ _ _ CmpOp.Is (fun _ => Value.ref _) _ _); exact Cmp.isR)
    | ((with_reducible show Cmp _ _ _ _ _ _ CmpOp.Is (fun _ => Value.none) _ _); exact Cmp.isN)
    | ((with_reducible show Cmp _ _ _ _ _ _ CmpOp.Is _ _ _); exact Cmp.isI)
    | ((with_reducible show Cmp _ _ _ _ _ _ CmpOp.IsNot _ _ _); exact Cmp.isnR)
  k_with "ceq" => first | with_reducible exact Cmp.eq | with_reducible exact Cmp.eqS | fail
  k_with "cne" => first | with_reducible exact Cmp.ne | with_reducible exact Cmp.neS | fail
  k_with "sub" => first
    | (with_reducible exact SubD.tup (by k_dflt (k_extra "m")) (by k_dflt (exact rfl)) (by k_dflt (kernel_rfl)) (by k_dflt (k_extra "ix")) (by k_dflt (k_extra "is")))
    | (with_reducible exact SubD.lst (by k_dflt (k_extra "m")) (by k_dflt (k_extra "int")) (by k_dflt (k_extra "int")) (by k_dflt (k_extra "ix")) (by k_dflt (k_extra "is")))
    | (with_reducible exact SubD.tupE (by k_dflt (k_extra "m")) (by k_dflt (k_extra "int")) (by k_dflt (k_extra "int")) (by k_dflt (k_extra "ix")) (by k_dflt (k_extra "is")))
    | (with_reducible exact SubD.dic (by k_dflt (k_extra "m")) (by k_dflt (k_extra "dict")) (by k_dflt (with_reducible assumption)) (by k_dflt (k_extra "is")))
  k_with "len" => first
    | (with_reducible exact LenD.lst (by k_dflt (k_extra "m")) (by k_dflt (k_extra "lenz")) (by k_dflt (k_extra "fit")))
    | (with_reducible exact LenD.tup (by k_dflt (k_extra "m")) (by k_dflt (k_extra "lenz")) (by k_dflt (k_extra "fit")))
  k_with "lenz" => first | exact rfl | fail
  k_with "e" => first
    | ((with_reducible show Ev _ _ _ _ _ _ (Expr.Name _ _) _); first | (with_reducible exact Ev.loc (by k_dflt (exact rfl)) (by k_dflt (kernel_rfl))) | (with_reducible exact Ev.glob (by k_dflt (kernel_rfl)) (by k_dflt (k_is)) (by k_dflt (k_extra "is"))))
    | ((with_reducible show Ev _ _ _ _ _ _ (Expr.Constant _ _ _) _); first | (with_reducible exact Ev.int) | (with_reducible exact Ev.str) | (with_reducible exact Ev.none) | (with_reducible exact Ev.bool))
    | ((with_reducible show Ev _ _ _ _ _ _ (Expr.Subscript (Expr.Tuple _ _ _) _ _) _); (with_reducible exact Ev.pick (by k_dflt (k_extra "es")) (by k_dflt (intro _; k_extra "e")) (by k_dflt (exact rfl)) (by k_dflt (kernel_rfl)) (by k_dflt (exact rfl)) (by k_dflt (kernel_rfl)) (by k_dflt (kernel_rfl))))
    | ((with_reducible show Ev _ _ _ _ _ _ (Expr.Subscript _ (Expr.Constant (Const.str _) _ _) _) _); (with_reducible exact Ev.ditem (by k_dflt (k_extra "e")) (by k_dflt (k_extra "e")) (by k_dflt (k_extra "m")) (by k_dflt (k_extra "dict")) (by k_dflt (k_extra "dv")) (by k_dflt (k_extra "is")) (by k_dflt (kernel_rfl))))
    | ((with_reducible show Ev _ _ _ _ _ _ (Expr.Subscript _ _ _) _); (with_reducible exact Ev.itm (by k_dflt (k_extra "e")) (by k_dflt (k_extra "e")) (by k_dflt (k_extra "sub")) (by k_dflt (kernel_rfl))))
    | ((with_reducible show Ev _ _ _ _ _ _ (Expr.Attribute _ _ _) _); (with_reducible exact Ev.attr (by k_dflt (k_extra "e")) (by k_dflt (k_extra "m")) (by k_dflt (k_extra "m")) (by k_dflt (k_extra "g")) (by k_dflt (k_extra "is")) (by k_dflt (k_extra "at")) (by k_dflt (kernel_rfl)) (by k_dflt (kernel_rfl))))
    | ((with_reducible show Ev _ _ _ _ _ _ (Expr.BinOp _ Operator.Add _ _) _); (with_reducible exact Ev.add (by k_dflt (k_extra "e")) (by k_dflt (k_extra "e"))))
    | ((with_reducible show Ev _ _ _ _ _ _ (Expr.BinOp _ Operator.Sub _ _) _); (with_reducible exact Ev.sub (by k_dflt (k_extra "e")) (by k_dflt (k_extra "e"))))
    | ((with_reducible show Ev _ _ _ _ _ _ (Expr.BinOp _ Operator.Mod _ _) _); (with_reducible exact Ev.mod (by k_dflt (k_extra "e")) (by k_dflt (k_extra "e")) (by k_dflt (k_extra "int"))))
    | ((with_reducible show Ev _ _ _ _ _ _ (Expr.BinOp _ Operator.Mult _ _) _); (with_reducible exact Ev.mul (by k_dflt (k_extra "e")) (by k_dflt (k_extra "e")) (by k_dflt (k_extra "mul"))))
    | ((with_reducible show Ev _ _ _ _ _ _ (Expr.BinOp _ Operator.FloorDiv _ _) _); (with_reducible exact Ev.fdiv (by k_dflt (k_extra "e")) (by k_dflt (k_extra "e")) (by k_dflt (k_extra "nz")) (by k_dflt (k_extra "log"))))
    | ((with_reducible show Ev _ _ _ _ _ _ (Expr.BinOp _ Operator.Pow _ _) _); (with_reducible exact Ev.pow (by k_dflt (k_extra "e")) (by k_dflt (k_extra "e")) (by k_dflt (k_extra "int")) (by k_dflt (k_extra "int")) (by k_dflt (k_extra "abs"))))
    | ((with_reducible show Ev _ _ _ _ _ _ (Expr.BinOp _ Operator.LShift _ _) _); (with_reducible exact Ev.shl (by k_dflt (k_extra "e")) (by k_dflt (k_extra "e")) (by k_dflt (k_extra "int")) (by k_dflt (k_extra "int")) (by k_dflt (k_extra "abs"))))
    | ((with_reducible show Ev _ _ _ _ _ _ (Expr.BinOp _ Operator.RShift _ _) _); (with_reducible exact Ev.shr (by k_dflt (k_extra "e")) (by k_dflt (k_extra "e")) (by k_dflt (k_extra "int"))))
    | ((with_reducible show Ev _ _ _ _ _ _ (Expr.BinOp _ Operator.BitAnd _ _) _); (with_reducible exact Ev.band (by k_dflt (k_extra "e")) (by k_dflt (k_extra "e"))))
    | ((with_reducible show Ev _ _ _ _ _ _ (Expr.BinOp _ Operator.BitOr _ _) _); (with_reducible exact Ev.bor (by k_dflt (k_extra "e")) (by k_dflt (k_extra "e"))))
    | ((with_reducible show Ev _ _ _ _ _ _ (Expr.BinOp _ Operator.BitXor _ _) _); (with_reducible exact Ev.xor (by k_dflt (k_extra "e")) (by k_dflt (k_extra "e"))))
    | ((with_reducible show Ev _ _ _ _ _ _ (Expr.UnaryOp UnaryOp.USub _ _) _); (with_reducible exact Ev.neg (by k_dflt (k_extra "e"))))
    | ((with_reducible show Ev _ _ _ _ _ _ (Expr.Compare _ [_] [_] _) _); (with_reducible exact Ev.cmp (by k_dflt (k_extra "e")) (by k_dflt (k_extra "e")) (by k_dflt (k_extra "c")) (by k_dflt (kernel_rfl))))
    | ((with_reducible show Ev _ _ _ _ _ _ (Expr.Call (Expr.Name (Str.ofString "len") _) _ [] _) _); (with_reducible exact Ev.lenD (by k_dflt (kernel_rfl)) (by k_dflt (k_is)) rfl (by k_dflt (k_extra "e")) (by k_dflt (k_extra "len")) (by k_dflt (kernel_rfl))))
    | ((with_reducible show Ev _ _ _ _ _ _ (Expr.Call (Expr.Name (Str.ofString "chr") _) _ [] _) _); (with_reducible exact Ev.chr (by k_dflt (kernel_rfl)) (by k_dflt (k_is)) (by k_dflt (boot_by_name)) (by k_dflt (decide)) (by k_dflt (k_extra "e")) (by k_dflt (k_extra "int")) (by k_dflt (k_extra "int")) (by k_dflt (kernel_rfl))))
    | ((with_reducible show Ev _ _ _ _ _ _ (Expr.Call (Expr.Name (Str.ofString "str") _) _ [] _) _); (with_reducible exact Ev.strI (by k_dflt (kernel_rfl)) (by k_dflt (k_is)) (by k_dflt (boot_by_name)) (by k_dflt (decide)) (by k_dflt (k_extra "e")) (by k_dflt (k_extra "lg")) (by k_dflt (kernel_rfl))))
    | ((with_reducible show Ev _ _ _ _ _ _ (Expr.JoinedStr _ _) _); (with_reducible exact Ev.fstr (by k_dflt (k_extra "e")) (by k_dflt (k_extra "lg"))))
    | ((with_reducible show Ev _ _ _ _ _ _ (Expr.Call (Expr.Name (Str.ofString "int") _) _ [] _) _); (with_reducible exact Ev.intB (by k_dflt (kernel_rfl)) (by k_dflt (k_is)) (by k_dflt (boot_by_name)) (by k_dflt (decide)) (by k_dflt (k_extra "e")) (by k_dflt (kernel_rfl))))
    | ((with_reducible show Ev _ _ _ _ _ _ (Expr.Call (Expr.Attribute _ (Str.ofString "get") _) [_] [] _) _); first
      | (with_reducible exact Ev.dget (by k_dflt (k_extra "e")) (by k_dflt (k_extra "e")) rfl (by k_dflt (k_extra "m")) (by k_dflt (k_extra "dict")) (by k_dflt (with_reducible assumption)) (by k_dflt (with_reducible assumption)) (by k_dflt (k_extra "is")) (by k_dflt (kernel_rfl)))
      | (with_reducible exact Ev.dgetN (by k_dflt (k_extra "e")) (by k_dflt (k_extra "e")) rfl (by k_dflt (k_extra "m")) (by k_dflt (k_extra "dict")) (by k_dflt (with_reducible assumption)) (by k_dflt (with_reducible assumption)) (by k_dflt (kernel_rfl))))
    | ((with_reducible show Ev _ _ _ _ _ _ (Expr.Call (Expr.Name _ _) (_ :: _) [] _) _); (with_reducible exact Ev.call (by k_dflt (kernel_rfl)) (by k_dflt (k_is)) (by k_dflt (k_is)) (by k_dflt (k_extra "es")) (by k_dflt (intro τ; k_extra "cc")) (by k_dflt (kernel_rfl)) (by k_dflt (k_extra "room")) (by k_dflt (k_extra "pre"))))
    | ((with_reducible show Ev _ _ _ _ _ _ (Expr.BoolOp _ [_] _) _); (with_reducible exact Ev.bop1 (by k_dflt (k_extra "e"))))
    | ((with_reducible show Ev _ _ _ _ _ _ (Expr.BoolOp BoolOp.And (_ :: _ :: _) _) _); first | (with_reducible exact Ev.andF (by k_dflt (k_extra "e")) (by k_dflt (k_extra "bf"))) | (with_reducible exact Ev.andT (by k_dflt (k_extra "e")) (by k_dflt (k_extra "bt")) (by k_dflt (k_extra "e"))))
    | ((with_reducible show Ev _ _ _ _ _ _ (Expr.BoolOp BoolOp.Or (_ :: _ :: _) _) _); (with_reducible exact Ev.orT (by k_dflt (k_extra "e")) (by k_dflt (k_extra "bt"))))
    | ((with_reducible show Ev _ _ _ _ _ _ (Expr.IfExp _ _ _ _) _); first | (with_reducible exact Ev.ternD (by k_dflt (k_extra "t")) (by k_dflt (first | (with_reducible exact IfD.f (by k_dflt (k_extra "bf")) (by k_dflt (k_extra "e"))) | (with_reducible exact IfD.t (by k_dflt (k_extra "bt")) (by k_dflt (k_extra "e"))) | (with_reducible exact IfD.mk (by k_dflt (intro _; k_extra "e")) (by k_dflt (intro _; k_extra "e")))))) | (with_reducible exact Ev.ternI (by k_dflt (k_extra "t")) (by k_dflt (k_extra "e")) (by k_dflt (k_extra "e"))) | (with_reducible exact Ev.ternS (by k_dflt (k_extra "t")) (by k_dflt (k_extra "e")) (by k_dflt (k_extra "e"))))
  k_with "room" => first | decide | fail
  k_with "mono" => first | (intro k1_ k2_ hkk_ hg_; intros; refine hkk_ _ _ ?_; apply hg_ <;> assumption) | fail
  k_with "es" => first
    | (with_reducible exact EvL.nil)
    | (with_reducible exact EvL.cons (by k_dflt (k_extra "e")) (by k_dflt (k_extra "es")) (by k_dflt (kernel_rfl)))
  k_with "no" => first | (rename_i h_no; first | exact Bool.noConfusion h_no | exact absurd h_no (by decide) | (exfalso; (simp only [List.length_cons, List.length_nil, decide_eq_true_eq, decide_eq_false_iff_not, Bool.and_eq_true, Bool.or_eq_true, Bool.and_eq_false_iff, Bool.or_eq_false_iff, Bool.not_eq_true', Bool.not_eq_false', Bool.true_eq_false, Bool.false_eq_true, not_true_eq_false, ne_eq, Decidable.not_not] at h_no); first | omega | contradiction)) | fail
  k_with "t" => first
    | ((with_reducible show Tst _ _ _ _ _ _ (Expr.Compare _ [_] [_] _) _); (with_reducible exact Tst.cmp (by k_dflt (k_extra "e")) (by k_dflt (k_extra "e")) (by k_dflt (k_extra "c")) (by k_dflt (kernel_rfl))))
    | ((with_reducible show Tst _ _ _ _ _ _ (Expr.Compare _ [_, _] [_, _] _) _); (with_reducible exact Tst.chain (by k_dflt (k_extra "e")) (by k_dflt (k_extra "e")) (by k_dflt (k_extra "c")) (by k_dflt (intro _; exact ⟨by k_extra "e", by k_extra "c"⟩)) (by k_dflt (kernel_rfl))))
    | ((with_reducible show Tst _ _ _ _ _ _ (Expr.UnaryOp UnaryOp.Not _ _) _); (with_reducible exact Tst.not (by k_dflt (k_extra "t"))))
    | ((with_reducible show Tst _ _ _ _ _ _ (Expr.BoolOp BoolOp.And [] _) _); (with_reducible exact Tst.and0))
    | ((with_reducible show Tst _ _ _ _ _ _ (Expr.BoolOp BoolOp.Or [] _) _); (with_reducible exact Tst.or0))
    | ((with_reducible show Tst _ _ _ _ _ _ (Expr.BoolOp BoolOp.And _ _) _); (with_reducible exact Tst.andD (by k_dflt (k_extra "t")) (by k_dflt (first | (with_reducible exact AndD.f (by k_dflt (k_extra "bf"))) | (with_reducible exact AndD.t (by k_dflt (k_extra "bt")) (by k_dflt (k_extra "t"))) | (with_reducible exact AndD.both (by k_dflt (k_extra "t")))))))
    | ((with_reducible show Tst _ _ _ _ _ _ (Expr.BoolOp BoolOp.Or _ _) _); (with_reducible exact Tst.orD (by k_dflt (k_extra "t")) (by k_dflt (first | (with_reducible exact OrD.t (by k_dflt (k_extra "bt"))) | (with_reducible exact OrD.f (by k_dflt (k_extra "bf")) (by k_dflt (k_extra "t"))) | (with_reducible exact OrD.both (by k_dflt (k_extra "t")))))))
    | (with_reducible exact Tst.bool (by k_dflt (k_extra "e")) (by k_dflt (kernel_rfl)))
    | (with_reducible exact Tst.int (by k_dflt (k_extra "e")) (by k_dflt (kernel_rfl)))
  k_with "endx" => first | fail | fail
  k_with "end" => first | with_reducible exact hk | exact endI hk (by omega) | exact endB hk (by k_extra "bool") | k_extra "endx" | fail
  k_with "bool" => first | rfl | assumption | fail
  k_with "om" => first | assumption | omega | fail
  k_with "upd" => first | exact updIn (by assumption) (by assumption) | fail
  k_with "size" => first | exact Nat.le_of_ble_eq_true rfl | fail
  k_with "lt" => first | assumption | exact List.forall_mem_cons.mpr ⟨by assumption, by k_extra "lt"⟩ | fail
  k_with "bt" => first
    | exact rfl
    | ((with_reducible show decide _ = true); exact decide_eq_true (by k_extra "om"))
    | ((with_reducible show (_ && _) = true); exact andT (by k_extra "bt") (by k_extra "bt"))
    | ((with_reducible show (_ || _) = true); first | exact orT (by k_extra "bt") | exact orT' (by k_extra "bt") | exact orP (by assumption))
    | ((with_reducible show (!_) = true); exact notT (by k_extra "bf"))
  k_with "bf" => first
    | exact rfl
    | ((with_reducible show decide _ = false); exact decide_eq_false (by k_extra "om"))
    | ((with_reducible show (_ && _) = false); first | exact andF (by k_extra "bf") | exact andF' (by k_extra "bf"))
    | ((with_reducible show (_ || _) = false); exact orF (by k_extra "bf") (by k_extra "bf"))
    | ((with_reducible show (!_) = false); exact notF (by k_extra "bt"))
  k_with "f" => first
    | ((with_reducible show Wf _ _ _ _ _ _ _ _ _ _ _ [] _ _); (with_unfolding_all show Wb _ _ _ _ _ _ _ _ _); (try k_extra "w"))
    | ((with_unfolding_all show ∀ o : Obj, o.cls = _ → Wt _ _ _ _ (Expr.Name _ _) _ _ _ _ _ _); intro o_ ho_; (with_reducible refine Wt.name (by k_dflt (k_extra "is")) (by k_dflt (kernel_rfl)) ?_); (try k_extra "w"))
    | ((with_unfolding_all show ∀ o : Obj, o.cls = _ → Wt _ _ _ _ (Expr.Tuple [Expr.Name _ _, Expr.Name _ _] _ _) _ _ _ _ _ _); intro o_ ho_; (with_reducible refine Wt.pair (by k_dflt (k_extra "m")) (by k_dflt (k_extra "is")) (by k_dflt (k_extra "is")) (by k_dflt (kernel_rfl)) (by k_dflt (kernel_rfl)) ?_); (try k_extra "w"))
  k_with "if" => first
    | ((with_reducible refine IfD.f (by k_dflt (k_extra "bf")) ?_); (try k_extra "w"))
    | ((with_reducible refine IfD.t (by k_dflt (k_extra "bt")) ?_); (try k_extra "w"))
    | ((with_reducible refine IfD.mk ?_ ?_) <;> intro _ <;> (try k_extra "w"))
  k_with "w" => first
    | ((with_reducible show Wb _ _ _ _ _ _ (Stmt.Return (some _) _ :: _) _ _); (with_reducible refine Wb.ret (by k_dflt (k_extra "e")) ?_); (try k_extra "end"))
    | ((with_reducible show Wb _ _ _ _ _ _ (Stmt.Assign [Expr.Name _ _] (Expr.List _ _) _ :: _) _ _); (with_reducible refine Wb.assignL (by k_dflt (k_extra "es")) (by k_dflt (kernel_rfl)) (by k_dflt (kernel_rfl)) (by k_dflt (exact rfl)) ?_); intro a_ τ_ ha_; (try dsimp only [app]); (try k_extra "w"))
    | ((with_reducible show Wb _ _ _ _ _ _ (Stmt.Assign [Expr.Name _ _] (Expr.Tuple _ _ _) _ :: _) _ _); (with_reducible refine Wb.assignP (by k_dflt (k_extra "es")) (by k_dflt (kernel_rfl)) (by k_dflt (kernel_rfl)) (by k_dflt (exact rfl)) ?_); intro a_ τ_ ha_; (try dsimp only [app]); (try k_extra "w"))
    | ((with_reducible show Wb _ _ _ _ _ _ (Stmt.Assign [Expr.Name _ _] (Expr.Call (Expr.Attribute _ (Str.ofString "pop") _) [] [] _) _ :: _) _ _); (with_reducible refine Wb.pop (by k_dflt (k_extra "e")) (by k_dflt (exact rfl)) (by k_dflt (k_extra "upd")) (by k_dflt (exact rfl)) (by k_dflt (k_extra "is")) (by k_dflt (k_extra "size")) (by k_dflt (kernel_rfl)) (by k_dflt (kernel_rfl)) (by k_dflt (exact rfl)) ?_); (try k_extra "w"))
    | ((with_reducible show Wb _ _ _ _ _ _ (Stmt.Expr (Expr.Call (Expr.Attribute _ (Str.ofString "append") _) [_] [] _) _ :: _) _ _); (with_reducible refine Wb.append (by k_dflt (k_extra "e")) (by k_dflt (k_extra "e")) (by k_dflt (exact rfl)) (by k_dflt (intro _; k_extra "upd")) (by k_dflt (k_extra "size")) (by k_dflt (kernel_rfl)) (by k_dflt (exact rfl)) (by k_dflt (exact rfl)) ?_); intro t_; (try dsimp only [List.nil_append, List.cons_append]); (try k_extra "w"))
    | ((with_reducible show Wb _ _ _ _ _ _ (Stmt.If (Expr.Compare (Expr.Call (Expr.Attribute _ (Str.ofString "pop") _) [] [] _) _ _ _) _ [] _ :: _) _ _); refine Wb.ifGF0 (Go.tcmp (Go.pop (by k_extra "e") (by exact rfl) (by k_extra "upd") (by exact rfl) (by k_extra "size") (by kernel_rfl) ⟨_, _, _, by k_extra "is", by k_extra "e", by exact Cmp.neSelf (by k_extra "m"), rfl, ?_⟩) (by kernel_rfl)); (try k_extra "w"))
    | ((with_reducible show Wb _ _ _ _ _ _ (Stmt.Assign [Expr.Tuple [Expr.Name _ _, Expr.Name _ _] _ _] _ _ :: _) _ _); (with_reducible refine Wb.unpackK (by k_dflt (k_extra "e")) (by k_dflt (assumption)) (by k_dflt (k_extra "is")) (by k_dflt (k_extra "is")) (by k_dflt (kernel_rfl)) (by k_dflt (kernel_rfl)) (by k_dflt (exact rfl)) (by k_dflt (exact rfl)) ?_); (try k_extra "w"))
    | ((with_reducible show Wb _ _ _ _ _ _ (Stmt.Assign [Expr.Name _ _] _ _ :: _) _ _); (with_reducible refine Wb.assign (by k_dflt (k_extra "e")) (by k_dflt (kernel_rfl)) (by k_dflt (exact rfl)) ?_); (try k_extra "w"))
    | ((with_reducible show Wb _ _ _ _ _ _ (Stmt.If _ _ [] _ :: _) _ _); (with_reducible refine Wb.ifD0 (by k_dflt (k_extra "t")) ?_); k_extra "if")
    | ((with_reducible show Wb _ _ _ _ _ _ (Stmt.If _ _ _ _ :: _) _ _); (with_reducible refine Wb.ifD (by k_dflt (k_extra "t")) ?_); k_extra "if")
    | ((with_reducible show Wb _ _ _ _ _ _ (Stmt.For (Expr.Name _ _) _ _ [] _ :: _) _ _); first
      | ((with_reducible refine Wb.forT (by k_dflt (k_extra "e")) (by k_dflt (k_extra "m")) (by k_dflt (intro _; rfl)) ?_); intro I_ hI_; (try k_extra "f"))
      | ((with_reducible refine Wb.forL (by k_dflt (k_extra "e")) (by k_dflt (k_extra "m")) (by k_dflt (intro _; rfl)) ?_); intro I_ hI_; (try k_extra "f")))
    | ((with_reducible show Wb _ _ _ _ _ _ [] _ _); (with_reducible refine Wb.nil ?_); (try dsimp only); first | k_extra "end" | ((with_reducible show Wb _ _ _ _ _ _ _ _ _); (try k_extra "w")) | (refine ⟨_, fun p hp => hp, by k_extra "lt", by k_extra "m", ?_⟩; (try k_extra "f")))
  k_with "m" => first | exact Bs.m (by with_reducible assumption) (by k_extra "m") | fail
  k_with "loc" => first | exact LocTo.nil | exact LocTo.cons' (by exact rfl) (by intro t_; exact ⟨t_, rfl⟩) (by k_extra "loc") | fail
  k_with "nm" => first | exact Nm.of (by with_reducible assumption) (by exact rfl) (by k_is) (by kernel_rfl) | fail
  k_with "e" => first | ((with_reducible show Ev _ _ _ _ _ _ (Expr.Attribute (Expr.Name (Str.ofString "self") _) _ _) _); exact Bs.attr (by with_reducible assumption) (by k_extra "e") (by exact rfl) (by k_extra "at") (by intro _; exact rfl) (by kernel_rfl)) | fail
  k_with "wi1" => first | fail | fail
  k_with "wi" =>
    first
    | ((with_reducible show Wi _ _ _ _ _ _ _ _ _ _ _ _ [] _); (with_reducible refine Wi.nil ?_))
    | k_extra "wi1"
    | ((with_reducible show Wi _ _ _ _ _ _ _ _ _ _ _ _ (Stmt.Assign [Expr.Attribute _ _ _] (Expr.Dict [] [] _) _ :: _) _); (with_reducible refine Wi.setDJ (by k_dflt (k_extra "nm")) (by k_dflt (kernel_rfl)) ?_); k_extra "wi")
    | ((with_reducible show Wi _ _ _ _ _ _ _ _ _ _ _ _ (Stmt.Assign [Expr.Attribute _ _ _] (Expr.List [] _) _ :: _) _); (with_reducible refine Wi.setLJ (by k_dflt (k_extra "nm")) (by k_dflt (kernel_rfl)) ?_); k_extra "wi")
    | ((with_reducible show Wi _ _ _ _ _ _ _ _ _ _ _ _ (Stmt.Assign [Expr.Attribute _ _ _] (Expr.Call (Expr.Name _ _) [] [] _) _ :: _) _); (with_reducible refine Wi.setC0 (by k_dflt (k_extra "nm")) (by k_dflt (kernel_rfl)) (by k_dflt (kernel_rfl)) (by k_dflt (k_is)) (by k_dflt (k_is)) (by k_dflt (k_is)) (by k_dflt (k_is)) ?_); k_extra "wi")
    | ((with_reducible show Wi _ _ _ _ _ _ _ _ _ _ _ _ (Stmt.Assign [Expr.Attribute _ _ _] _ _ :: _) _); (with_reducible refine Wi.set (by k_dflt (k_extra "nm")) (by k_dflt (kernel_rfl)) (by k_dflt (intro n_ B_; k_extra "e")) ?_); (try k_extra "wi"))
  trivial
section
variable {w : World} {D : Nat} {c : Cx} {cs : Scope} {mm : Locs} {news : Led}
/-- a call without arguments -/
theorem Go.call0 {x : Str} {np pos : Pos} {f : Addr} {K : Value → Led → Prop} (ho : globOk cs x = true) (hn : nsIn (KF w.params) mainGlobals x = some (some (.ref f))) (hk : keepIn (KF w.params) (.ref f) = true)
    (h : Go w D c cs mm news (PySem.call (.ref f) []) K) : Go w D c cs mm news (eval (.Call (.Name x np) [] [] pos) (c.env cs)) K :=
  fun O s Q E S q => by
    refine Call_ ((Ev.glob ho hn Vl.any).go O S fun _ h1 tk1 S1 => ?_)
    obtain ⟨m, F, hmm, N⟩ := S1.open'
    exact callWith_K0 (first := []) (O.X.keeps F.keep) hk (h O { s with heap := h1, toks := tk1 } Q E S1 fun v n' h' tk' S' kv => q v n' h' tk' S' kv)
theorem Go.cls0 {C : Addr} {K : Value → Led → Prop} (hm : makesIn (KF w.params) C = true) (hi : findIn (KF w.params) (.ref C) "__init__" = some (some (.builtin "object.__init__")))
    (h : ∀ x dx, K (.ref x) ((x, instObj C dx) :: (dx, dictOf [] 0) :: news)) : Go w D c cs mm news (PySem.call (.ref C) []) K :=
  Go.raw fun O s _ _ m F hmm N q => call_cls0 F O.X N hm hi fun x dx h' F' N' _ _ => q _ _ h' s.toks m F' hmm N' (h x dx)
end
section
variable {w : World} {D : Nat} {c : Cx} {cs : Scope} {C : Addr} {n0 : Led} {x d : Addr} {mm fs : Locs} {ns : List Str} {led : Led} {k : Locs → List Str → Led → Prop}
structure ClsOk (K : Frag) (C : Addr) : Prop where
  a : findIn K (.ref C) "__setattr__" = some (some (.builtin "object.__setattr__"))
  b : plainOver K C = true
  d : hasDictIn K C = true
noncomputable def nmOk (cs : Scope) (ns : List Str) (sf name : Str) : Bool := locOk cs sf && !ns.contains name && decide (ns.length < 1000)
theorem Nm.of {sf name : Str} (Q : ClsOk (KF w.params) C) (h1 : mm.lookup sf = some fun _ => .ref x) (h2 : takerIn (KF w.params) C name = some none) (h : nmOk cs ns sf name = true) : Nm w c cs C x mm ns sf name := by
  unfold nmOk at h
  simp only [Bool.and_eq_true, decide_eq_true_eq, Bool.not_eq_true'] at h
  refine ⟨h1, h.1.1, ?_, h.1.2, h.2⟩
  unfold setOk
  rw [Q.a, Q.b, h2, Q.d]
  rfl
theorem Wi.setDJ {self name : Str} {sp ap pos p1 : Pos} {rest : List Stmt} (H : Nm w c cs C x mm ns self name) (hsw : swapsWith (.Dict [] [] p1) (some (.Attribute (.Name self sp) name ap)) pos.line (c.env cs) = pure false)
    (g : Wi w D c cs C n0 x d mm fs (name :: ns) led rest k) : Wi w D c cs C n0 x d mm fs ns led (.Assign [.Attribute (.Name self sp) name ap] (.Dict [] [] p1) pos :: rest) k :=
  Wi.setJ H hsw (fun _ _ => Go.dict fun _ _ _ _ _ _ h => .tail _ h) g
theorem Wi.setLJ {self name : Str} {sp ap pos p1 : Pos} {rest : List Stmt} (H : Nm w c cs C x mm ns self name) (hsw : swapsWith (.List [] p1) (some (.Attribute (.Name self sp) name ap)) pos.line (c.env cs) = pure false)
    (g : Wi w D c cs C n0 x d mm fs (name :: ns) led rest k) : Wi w D c cs C n0 x d mm fs ns led (.Assign [.Attribute (.Name self sp) name ap] (.List [] p1) pos :: rest) k :=
  Wi.setJ H hsw (fun _ _ => Go.list EvL.nil (by decide) fun _ _ _ _ h => .tail _ h) g
theorem Wi.setC0 {self name X : Str} {sp ap pos p1 np : Pos} {rest : List Stmt} {C' : Addr} (H : Nm w c cs C x mm ns self name) (hsw : swapsWith (.Call (.Name X np) [] [] p1) (some (.Attribute (.Name self sp) name ap)) pos.line (c.env cs) = pure false)
    (ho : globOk cs X = true) (hn : nsIn (KF w.params) mainGlobals X = some (some (.ref C'))) (hk : keepIn (KF w.params) (.ref C') = true) (hm : makesIn (KF w.params) C' = true) (hi : findIn (KF w.params) (.ref C') "__init__" = some (some (.builtin "object.__init__")))
    (g : Wi w D c cs C n0 x d mm fs (name :: ns) led rest k) : Wi w D c cs C n0 x d mm fs ns led (.Assign [.Attribute (.Name self sp) name ap] (.Call (.Name X np) [] [] p1) pos :: rest) k :=
  Wi.setJ H hsw (fun _ _ => Go.call0 ho hn hk (Go.cls0 hm hi fun _ _ _ h => .tail _ (.tail _ h))) g
theorem Wi.setO {self name X : Str} {sp ap pos p1 np : Pos} {rest : List Stmt} {e : PySem.Expr} {es : List PySem.Expr} {Vs : List (Tok → Value)} {C' : Addr} {d' : Nat} {P : List DictEntry → Prop} (H : Nm w c cs C x mm ns self name) (hsw : swapsWith (.Call (.Name X np) (e :: es) [] p1) (some (.Attribute (.Name self sp) name ap)) pos.line (c.env cs) = pure false)
    (ho : globOk cs X = true) (hn : nsIn (KF w.params) mainGlobals X = some (some (.ref C'))) (hk : keepIn (KF w.params) (.ref C') = true) (ha : ∀ news, Bs C n0 x d fs ns led news → EvL w D c cs mm news p1 (e :: es) Vs) (hs : noStars (e :: es) = true)
    (hC : ∀ τ, CC w d' C' (app Vs τ) (fun _ => True) fun news k => ∀ (x dx : Addr) es en news', (∀ p ∈ news, p ∈ news') → (∀ p ∈ news, @LT.lt Nat _ p.1 dx) → @LT.lt Nat _ dx x → (x, instObj C' dx) ∈ news' → (dx, dictOf es en) ∈ news' → P es → k (.ref x) news') (hd : d' ≤ D)
    (g : ∀ (a da : Addr) es en, (∀ p ∈ led, @LT.lt Nat _ p.1 da) → @LT.lt Nat _ da a → P es → Wi w D c cs C n0 x d mm ((name, fun _ => .ref a) :: fs) (name :: ns) ((a, instObj C' da) :: (da, dictOf es en) :: led) rest k) : Wi w D c cs C n0 x d mm fs ns led (.Assign [.Attribute (.Name self sp) name ap] (.Call (.Name X np) (e :: es) [] p1) pos :: rest) k :=
  Wi.setG H.hs H.hl H.hc H.hn H.hz hsw fun news B => Go.callA ho hn hk hs (Go.mono (ha news B) fun vs n' ⟨e1, τ, e2⟩ => by
    subst e1; subst e2
    refine Go.ctr (hC τ) hd trivial (fun k k' hkk h a da es en n2 s l1 l2 m1 m2 p => hkk _ _ (h a da es en n2 s l1 l2 m1 m2 p)) fun a da es en n2 s l1 l2 m1 m2 p => ?_
    obtain ⟨_, _, B1, _, _⟩ := B.ex
    refine ⟨s, _, (a, instObj C' da) :: (da, dictOf es en) :: led, fun q hq => ?_, fsCons ⟨0, rfl⟩ H.hn B.kn, g a da es en (fun p hp => l1 p (B.sub p hp)) l2 p⟩
    rcases List.mem_cons.mp hq with rfl | hq
    · exact ⟨m1, Nat.ne_of_gt (Nat.lt_trans (l1 _ B1.dict) l2)⟩
    rcases List.mem_cons.mp hq with rfl | hq
    · exact ⟨m2, Nat.ne_of_gt (l1 _ B1.dict)⟩
    · exact ⟨s _ (B.sub q hq), B.ne q hq⟩)
end
theorem c_host (w : World) (kt : Addr) : CC w (0 + 2) 766 [.ref kt] (fun _ => True) (fun news k => ∀ x d es en news', (∀ p ∈ news, p ∈ news') → (∀ p ∈ news, @LT.lt Nat _ p.1 d) → @LT.lt Nat _ d x → (x, instObj 766 d) ∈ news' → (d, dictOf es en) ∈ news' → getL (Str.ofString "kt") es = some (some (.ref kt)) → k (.ref x) news') := by
  refine cc_cls (fun x => [(Str.ofString "kt", .ref kt), (Str.ofString "self", .ref x)]) (by k_is) (by k_is) (by k_is) (by k_is) (by k_is) (by intro _; kernel_rfl) (by intro _; k_extra "isb") (by intro _; kernel_rfl) (by kernel_rfl) (by kernel_rfl) (by kernel_rfl) (by kernel_rfl) ?_
  intro cx news kz x dx hp hk lx ly
  have qC : ClsOk (KF w.params) 766 := ⟨by k_is, by k_is, by k_is⟩
  k_extra "wi"
  intro n' B
  obtain ⟨es, en, B1, B2, -⟩ := B.ex
  obtain ⟨_, g1⟩ := B2 (Str.ofString "kt") _ rfl
  exact hk x dx es en n' B1.sub B1.lt B1.dx B1.inst B1.dict g1
theorem c_heap (w : World) (t u : Tok) : CC w (0 + 2) 815 [.int 4000 t, .int 4 u] (fun _ => True) (fun news k => ∀ x d es en th at_ o news' t1 t2 t3, (∀ p ∈ news, p ∈ news') → (∀ p ∈ news, @LT.lt Nat _ p.1 d) → @LT.lt Nat _ d x → @LT.lt Nat _ x th → @LT.lt Nat _ th at_ → (x, instObj 815 d) ∈ news' → (d, dictOf es en) ∈ news' → (th, listOf ([] : List Value).toArray 0) ∈ news' → (at_, o) ∈ news' → o.IsDictOf (intKind pg w) [] → (at_ == sysModules) = false → getL (Str.ofString "things") es = some (some (.ref th)) → getL (Str.ofString "at") es = some (some (.ref at_)) → getL (Str.ofString "top") es = some (some (.int 16 t1)) → getL (Str.ofString "made") es = some (some (.int 0 t2)) → getL (Str.ofString "fresh") es = some (some (.int 0 t3)) → es.length ≤ 1000 → k (.ref x) news') := by
  refine cc_cls (fun x => [(Str.ofString "card_bits", .int 4 u), (Str.ofString "limit", .int 4000 t), (Str.ofString "self", .ref x)]) (by k_is) (by k_is) (by k_is) (by k_is) (by k_is) (by intro _; kernel_rfl) (by intro _; k_extra "isb") (by intro _; kernel_rfl) (by kernel_rfl) (by kernel_rfl) (by kernel_rfl) (by kernel_rfl) ?_
  intro cx news kz x dx hp hk lx ly
  have qC : ClsOk (KF w.params) 815 := ⟨by k_is, by k_is, by k_is⟩
  k_with "wi1" => first | (with_reducible show Wi _ _ _ _ 815 _ _ _ _ _ _ _ (Stmt.Assign [Expr.Attribute _ (Str.ofString "things") _] _ _ :: _) _); refine Wi.setL (by k_extra "nm") (by kernel_rfl) (by intro n_ B_; k_extra "es") (by kernel_rfl) ?_; intro th _ _ lth; dsimp only [app]; k_extra "wi" | fail
  k_with "wi1" => first | (with_reducible show Wi _ _ _ _ 815 _ _ _ _ _ _ _ (Stmt.Assign [Expr.Attribute _ (Str.ofString "at") _] _ _ :: _) _); refine Wi.setD (by k_extra "nm") (by kernel_rfl) ?_; intro at_ o lat _ sat iat; k_extra "wi" | fail
  k_extra "wi"
  intro n' B
  obtain ⟨es, en, B1, B2, -⟩ := B.ex
  obtain ⟨_, g1⟩ := B2 (Str.ofString "things") _ rfl
  obtain ⟨_, g2⟩ := B2 (Str.ofString "at") _ rfl
  obtain ⟨_, g3⟩ := B2 (Str.ofString "top") _ rfl
  obtain ⟨_, g4⟩ := B2 (Str.ofString "made") _ rfl
  obtain ⟨_, g5⟩ := B2 (Str.ofString "fresh") _ rfl
  exact hk x dx es en th at_ o n' _ _ _ B1.sub B1.lt B1.dx lth (lat (th, _) (by k_extra "m")) B1.inst B1.dict (B.m (by k_extra "m")) (B.m (by k_extra "m")) iat sat g1 g2 g3 g4 g5 (Nat.le_trans B1.len (Nat.le_of_ble_eq_true rfl))
theorem c_phost (w : World) (hp fr st : Addr) : CC w (0 + 2) 864 [.ref hp, .ref fr, .ref st] (fun _ => True) (fun news k => ∀ x d es en news', (∀ p ∈ news, p ∈ news') → (∀ p ∈ news, @LT.lt Nat _ p.1 d) → @LT.lt Nat _ d x → (x, instObj 864 d) ∈ news' → (d, dictOf es en) ∈ news' → getL (Str.ofString "heap") es = some (some (.ref hp)) ∧ getL (Str.ofString "statics") es = some (some (.ref st)) → k (.ref x) news') := by
  refine cc_cls (fun x => [(Str.ofString "statics", .ref st), (Str.ofString "frames", .ref fr), (Str.ofString "heap", .ref hp), (Str.ofString "self", .ref x)]) (by k_is) (by k_is) (by k_is) (by k_is) (by k_is) (by intro _; kernel_rfl) (by intro _; k_extra "isb") (by intro _; kernel_rfl) (by kernel_rfl) (by kernel_rfl) (by kernel_rfl) (by kernel_rfl) ?_
  intro cx news kz x dx hp hk lx ly
  have qC : ClsOk (KF w.params) 864 := ⟨by k_is, by k_is, by k_is⟩
  k_extra "wi"
  intro n' B
  obtain ⟨es, en, B1, B2, -⟩ := B.ex
  obtain ⟨_, g1⟩ := B2 (Str.ofString "heap") _ rfl
  obtain ⟨_, g2⟩ := B2 (Str.ofString "statics") _ rfl
  exact hk x dx es en n' B1.sub B1.lt B1.dx B1.inst B1.dict ⟨g1, g2⟩
theorem c_calls (w : World) (r : Addr) : CC w (0 + 2) 452 [.ref r] (fun _ => True) (fun news k => ∀ v news', (∀ p ∈ news, p ∈ news') → k v news') := by
  refine cc_cls (fun x => [(Str.ofString "rows", .ref r), (Str.ofString "self", .ref x)]) (by k_is) (by k_is) (by k_is) (by k_is) (by k_is) (by intro _; kernel_rfl) (by intro _; k_extra "isb") (by intro _; kernel_rfl) (by kernel_rfl) (by kernel_rfl) (by kernel_rfl) (by kernel_rfl) ?_
  intro cx news kz x dx hp hk lx ly
  have qC : ClsOk (KF w.params) 452 := ⟨by k_is, by k_is, by k_is⟩
  k_extra "wi"
  exact fun n' B => hk _ n' fun p hp => B.m hp
theorem c_tray (w : World) (st sd kt hp : Addr) (es : List DictEntry) (en : Nat) : CC w (2 + 2) 1110 [.ref st, .ref hp] (fun news => (st, instObj 766 sd) ∈ news ∧ (sd, dictOf es en) ∈ news ∧ getL (Str.ofString "kt") es = some (some (.ref kt))) (fun news k => ∀ x d es en sa so th tl px pd pes pn news' t, (∀ p ∈ news, p ∈ news') → (∀ p ∈ news, @LT.lt Nat _ p.1 d) → @LT.lt Nat _ d x → @LT.lt Nat _ x sa → @LT.lt Nat _ sa th → @LT.lt Nat _ sa tl → @LT.lt Nat _ th pd → @LT.lt Nat _ tl pd → @LT.lt Nat _ pd px → (x, instObj 1110 d) ∈ news' → (d, dictOf es en) ∈ news' → (sa, so) ∈ news' → so.IsDictOf (intKind pg w) [] → (sa == sysModules) = false → (th, listOf ([] : List Value).toArray 0) ∈ news' → (tl, listOf ([] : List Value).toArray 0) ∈ news' → (px, instObj 864 pd) ∈ news' → (pd, dictOf pes pn) ∈ news' → getL (Str.ofString "store") es = some (some (.ref st)) → getL (Str.ofString "kt") es = some (some (.ref kt)) → getL (Str.ofString "heap") es = some (some (.ref hp)) → getL (Str.ofString "statics") es = some (some (.ref sa)) → getL (Str.ofString "places") es = some (some (.ref px)) → getL (Str.ofString "thrown") es = some (some (.ref th)) → getL (Str.ofString "told") es = some (some (.ref tl)) → getL (Str.ofString "state") es = some (some (.int 0 t)) → getL (Str.ofString "heap") pes = some (some (.ref hp)) → getL (Str.ofString "statics") pes = some (some (.ref sa)) → k (.ref x) news') := by
  refine cc_cls (fun x => [(Str.ofString "heap", .ref hp), (Str.ofString "store", .ref st), (Str.ofString "self", .ref x)]) (by k_is) (by k_is) (by k_is) (by k_is) (by k_is) (by intro _; kernel_rfl) (by intro _; k_extra "isb") (by intro _; kernel_rfl) (by kernel_rfl) (by kernel_rfl) (by kernel_rfl) (by kernel_rfl) ?_
  intro cx news kz x dx hp hk lx ly
  have qC : ClsOk (KF w.params) 1110 := ⟨by k_is, by k_is, by k_is⟩
  obtain ⟨h1, h2, h3⟩ := hp
  k_with "wi1" => first | (with_reducible show Wi _ _ _ _ 1110 _ _ _ _ _ _ _ (Stmt.Assign [Expr.Attribute _ (Str.ofString "by_number") _] _ _ :: _) _); refine Wi.setD (by k_extra "nm") (by kernel_rfl) ?_; intro bn bo _ _ _ _; k_extra "wi" | fail
  k_with "wi1" => first | (with_reducible show Wi _ _ _ _ 1110 _ _ _ _ _ _ _ (Stmt.Assign [Expr.Attribute _ (Str.ofString "statics") _] _ _ :: _) _); refine Wi.setD (by k_extra "nm") (by kernel_rfl) ?_; intro sa so _ lsa ssa isa; k_extra "wi" | fail
  k_with "wi1" => first | (with_reducible show Wi _ _ _ _ 1110 _ _ _ _ _ _ _ (Stmt.Assign [Expr.Attribute _ (Str.ofString "told") _] _ _ :: _) _); refine Wi.setL (by k_extra "nm") (by kernel_rfl) (by intro n_ B_; k_extra "es") (by kernel_rfl) ?_; intro tl _ ltl _; dsimp only [app]; k_extra "wi" | fail
  k_with "wi1" => first | (with_reducible show Wi _ _ _ _ 1110 _ _ _ _ _ _ _ (Stmt.Assign [Expr.Attribute _ (Str.ofString "thrown") _] _ _ :: _) _); refine Wi.setL (by k_extra "nm") (by kernel_rfl) (by intro n_ B_; k_extra "es") (by kernel_rfl) ?_; intro th _ lth _; dsimp only [app]; k_extra "wi" | fail
  k_with "wi1" => first | (with_reducible show Wi _ _ _ _ 1110 _ _ _ _ _ _ _ (Stmt.Assign [Expr.Attribute _ (Str.ofString "places") _] _ _ :: _) _); refine Wi.setO (by k_extra "nm") (by kernel_rfl) (by kernel_rfl) (by k_is) (by k_is) (by intro n_ B_; k_extra "es") (by kernel_rfl) (by intro τ; exact c_phost w _ _ _) (by decide) ?_; intro px pd pes pn lpd lpx gp; k_extra "wi" | fail
  k_extra "wi"
  intro n' B
  obtain ⟨es', en', B1, B2, -⟩ := B.ex
  obtain ⟨_, g1⟩ := B2 (Str.ofString "store") _ rfl
  obtain ⟨_, g2⟩ := B2 (Str.ofString "kt") _ rfl
  obtain ⟨_, g3⟩ := B2 (Str.ofString "heap") _ rfl
  obtain ⟨_, g4⟩ := B2 (Str.ofString "statics") _ rfl
  obtain ⟨_, g5⟩ := B2 (Str.ofString "places") _ rfl
  obtain ⟨_, g6⟩ := B2 (Str.ofString "thrown") _ rfl
  obtain ⟨_, g7⟩ := B2 (Str.ofString "told") _ rfl
  obtain ⟨_, g8⟩ := B2 (Str.ofString "state") _ rfl
  exact hk x dx es' en' sa so th tl px pd pes pn n' _ B1.sub B1.lt B1.dx lsa (lth (sa, _) (by k_extra "m")) (ltl (sa, _) (by k_extra "m")) (lpd (th, _) (by k_extra "m")) (lpd (tl, _) (by k_extra "m")) lpx B1.inst B1.dict (B.m (by k_extra "m")) isa ssa (B.m (by k_extra "m")) (B.m (by k_extra "m")) (B.m (by k_extra "m")) (B.m (by k_extra "m")) g1 g2 g3 g4 g5 g6 g7 g8 gp.1 gp.2
theorem c_bed (w : World) (m md st kt : Addr) (sd : Addr) (es se : List DictEntry) (en sn : Nat) (t : Tok) : CC w (2 + 2) 1316 [.ref m, .int 1000 t] (fun news => (m, instObj 1110 md) ∈ news ∧ (md, dictOf es en) ∈ news ∧ getL (Str.ofString "store") es = some (some (.ref st)) ∧ (st, instObj 766 sd) ∈ news ∧ (sd, dictOf se sn) ∈ news ∧ getL (Str.ofString "kt") se = some (some (.ref kt))) (fun news k => ∀ x d es' en' th cr co news', (∀ p ∈ news, p ∈ news') → (∀ p ∈ news, @LT.lt Nat _ p.1 d) → @LT.lt Nat _ d x → @LT.lt Nat _ x th → @LT.lt Nat _ th cr → (x, instObj 1316 d) ∈ news' → (d, dictOf es' en') ∈ news' → (th, listOf [Value.none].toArray 0) ∈ news' → (cr, co) ∈ news' → co.IsDictOf (intKind pg w) [] → (cr == sysModules) = false → getL (Str.ofString "store") es' = some (some (.ref st)) → getL (Str.ofString "kt") es' = some (some (.ref kt)) → getL (Str.ofString "things") es' = some (some (.ref th)) → getL (Str.ofString "core") es' = some (some (.ref cr)) → getL (Str.ofString "seen_as") es' = some none → k (.ref x) news') := by
  refine cc_cls (fun x => [(Str.ofString "most", .int 1000 t), (Str.ofString "unit", .ref m), (Str.ofString "self", .ref x)]) (by k_is) (by k_is) (by k_is) (by k_is) (by k_is) (by intro _; kernel_rfl) (by intro _; k_extra "isb") (by intro _; kernel_rfl) (by kernel_rfl) (by kernel_rfl) (by kernel_rfl) (by kernel_rfl) ?_
  intro cx news kz x dx hp hk lx ly
  have qC : ClsOk (KF w.params) 1316 := ⟨by k_is, by k_is, by k_is⟩
  obtain ⟨h1, h2, h3, h4, h5, h6⟩ := hp
  k_with "wi1" => first | (with_reducible show Wi _ _ _ _ 1316 _ _ _ _ _ _ _ (Stmt.Assign [Expr.Attribute _ (Str.ofString "things") _] _ _ :: _) _); refine Wi.setL (by k_extra "nm") (by kernel_rfl) (by intro n_ B_; k_extra "es") (by kernel_rfl) ?_; intro th _ _ lth; dsimp only [app]; k_extra "wi" | fail
  k_with "wi1" => first | (with_reducible show Wi _ _ _ _ 1316 _ _ _ _ _ _ _ (Stmt.Assign [Expr.Attribute _ (Str.ofString "core") _] _ _ :: _) _); refine Wi.setD (by k_extra "nm") (by kernel_rfl) ?_; intro cr co lcr _ scr icr; k_extra "wi" | fail
  k_with "wi1" => first | (with_reducible show Wi _ _ _ _ 1316 _ _ _ _ _ _ _ (Stmt.Assign [Expr.Attribute _ (Str.ofString "calls") _] _ _ :: _) _); refine Wi.setJ (by k_extra "nm") (by kernel_rfl) (fun _ _ => Go.callA (by kernel_rfl) (by k_is) (by k_is) (by kernel_rfl) (EvA.go (Go.dict fun Dd _ _ _ _ => EvA.nil (Go.ctr (c_calls w Dd) (by decide) trivial (fun _ _ hkk h v n s => hkk _ _ (h v n s)) fun v n s p hp => s _ (.tail _ hp))) (by kernel_rfl))) ?_; k_extra "wi" | fail
  k_extra "wi"
  intro n' B
  obtain ⟨es', en', B1, B2, B3⟩ := B.ex
  obtain ⟨_, g1⟩ := B2 (Str.ofString "store") _ rfl
  obtain ⟨_, g2⟩ := B2 (Str.ofString "kt") _ rfl
  obtain ⟨_, g3⟩ := B2 (Str.ofString "things") _ rfl
  obtain ⟨_, g4⟩ := B2 (Str.ofString "core") _ rfl
  exact hk x dx es' en' th cr co n' B1.sub B1.lt B1.dx lth (lcr (th, _) (by k_extra "m")) B1.inst B1.dict (B.m (by k_extra "m")) (B.m (by k_extra "m")) icr scr g1 g2 g3 g4 (B3 (Str.ofString "seen_as") (by kernel_rfl))


theorem orE {p q : Prop} [Decidable p] [Decidable q] (h : (decide p || (decide q || false)) = true) : p ∨ q := by simpa using h
theorem norE {p q : Prop} [Decidable p] [Decidable q] (h : (decide p || (decide q || false)) = false) : ¬(p ∨ q) := by simpa using h
theorem dT {p : Prop} [Decidable p] (h : decide p = true) : p := of_decide_eq_true h
theorem dF {p : Prop} [Decidable p] (h : decide p = false) : ¬p := of_decide_eq_false h
noncomputable def wrapBits (n b : Int) : Int :=
  if (Builtin.bitAnd n (1 * 2 ^ b.toNat - 1)).fdiv (2 ^ (b - 1).toNat) = 0 then Builtin.bitAnd n (1 * 2 ^ b.toNat - 1) else Builtin.bitAnd n (1 * 2 ^ b.toNat - 1) - 1 * 2 ^ b.toNat
theorem c_wrap_bits (w : World) (n b : Int) (t u : Tok) : CP w 1 281 [.int n t, .int b u] (fun _ => 1 ≤ b ∧ b ≤ 64) (fun t => .int (wrapBits n b) t) := by
  refine cc_of [(Str.ofString "bits", .int b u), (Str.ofString "n", .int n t)] (by k_is) (by k_is) (by kernel_rfl) (by k_extra "isb") (by kernel_rfl) (by kernel_rfl) (by kernel_rfl) (by kernel_rfl) (by kernel_rfl) ?_
  intro cx news kz hp hk
  obtain ⟨h1, h2⟩ := hp
  k_extra "w"
  · exact endI hk (if_neg (dT ‹_›)).symm
  · exact endI hk (if_pos (Decidable.not_not.mp (dF ‹_›))).symm
theorem c_wrap32 (w : World) (n : Int) (t : Tok) : CP w 2 288 [.int n t] (fun _ => True) (fun t => .int (wrapBits n 32) t) := by
  refine cc_of [(Str.ofString "n", .int n t)] (by k_is) (by k_is) (by kernel_rfl) (by k_extra "isb") (by kernel_rfl) (by kernel_rfl) (by kernel_rfl) (by kernel_rfl) (by kernel_rfl) ?_
  intro cx news kz hp hk
  k_with "cc" => first | exact c_wrap_bits w _ _ _ _ | fail
  k_with "pre" => first | exact ⟨by decide, by decide⟩ | fail
  k_extra "w"
theorem c_wrap64 (w : World) (n : Int) (t : Tok) : CP w 2 295 [.int n t] (fun _ => True) (fun t => .int (wrapBits n 64) t) := by
  refine cc_of [(Str.ofString "n", .int n t)] (by k_is) (by k_is) (by kernel_rfl) (by k_extra "isb") (by kernel_rfl) (by kernel_rfl) (by kernel_rfl) (by kernel_rfl) (by kernel_rfl) ?_
  intro cx news kz hp hk
  k_extra "w"
noncomputable def cutTo (k n : Int) : Int :=
  if k = 1 ∨ k = 4 then Builtin.bitAnd n 255 else if k = 2 ∨ k = 6 then Builtin.bitAnd n 65535 else if k = 3 then wrapBits n 8 else if k = 5 then wrapBits n 16 else if k = 9 ∨ k = 10 then wrapBits n 64 else wrapBits n 32
theorem cutA {k n : Int} (h : k = 1 ∨ k = 4) : Builtin.bitAnd n 255 = cutTo k n := (if_pos h).symm
theorem cutB {k n : Int} (h : k = 2 ∨ k = 6) : Builtin.bitAnd n 65535 = cutTo k n := by unfold cutTo; rw [if_neg (by omega), if_pos h]
theorem cutC {k n : Int} (h : k = 3) : wrapBits n 8 = cutTo k n := by subst h; rfl
theorem cutD {k n : Int} (h : k = 5) : wrapBits n 16 = cutTo k n := by subst h; rfl
theorem cutE {k n : Int} (h : k = 9 ∨ k = 10) : wrapBits n 64 = cutTo k n := by rcases h with h | h <;> subst h <;> rfl
theorem cutF {k n : Int} (h1 : ¬(k = 1 ∨ k = 4)) (h2 : ¬(k = 2 ∨ k = 6)) (h3 : ¬ k = 3) (h4 : ¬ k = 5) (h5 : ¬(k = 9 ∨ k = 10)) : wrapBits n 32 = cutTo k n := by unfold cutTo; rw [if_neg h1, if_neg h2, if_neg h3, if_neg h4, if_neg h5]
theorem c_cut_to (w : World) (k n : Int) (t u : Tok) : CP w 3 309 [.int k t, .int n u] (fun _ => True) (fun t => .int (cutTo k n) t) := by
  refine cc_of [(Str.ofString "n", .int n u), (Str.ofString "k", .int k t)] (by k_is) (by k_is) (by kernel_rfl) (by k_extra "isb") (by kernel_rfl) (by kernel_rfl) (by kernel_rfl) (by kernel_rfl) (by kernel_rfl) ?_
  intro cx news kz hp hk
  k_with "cc" => first | exact c_wrap64 w _ _ | exact c_wrap32 w _ _ | exact c_wrap_bits w _ _ _ _ | fail
  k_extra "w"
  · exact endI hk (cutA (orE ‹_›))
  · rename_i e1 e2; exact endI hk (cutB (orE e2))
  · exact endI hk (cutC (dT ‹_›))
  · rename_i e1 e2 e3 e4; exact endI hk (cutD (dT e4))
  · rename_i e1 e2 e3 e4 e5; exact endI hk (cutE (orE e5))
  · rename_i e1 e2 e3 e4 e5; exact endI hk (cutF (norE e1) (norE e2) (dF e3) (dF e4) (norE e5))
noncomputable def cmpOf (a b : Int) : Int := if a < b then -1 else if b < a then 1 else 0
theorem c_compare_of (w : World) (a b : Int) (t u : Tok) : CP w 1 589 [.int a t, .int b u] (fun _ => True) (fun t => .int (cmpOf a b) t) := by
  refine cc_of [(Str.ofString "b", .int b u), (Str.ofString "a", .int a t)] (by k_is) (by k_is) (by kernel_rfl) (by k_extra "isb") (by kernel_rfl) (by kernel_rfl) (by kernel_rfl) (by kernel_rfl) (by kernel_rfl) ?_
  intro cx news kz hp hk
  k_extra "w"
  · exact endI hk (if_pos (dT ‹_›)).symm
  · rename_i e1
    exact endI hk (by unfold cmpOf; rw [if_neg (dF e1)]; simp only [decide_eq_true_eq])
theorem c_truth_of (w : World) (b : Bool) : CP w 1 575 [.bool b] (fun _ => True) (fun t => .int (if b = true then 1 else 0) t) := by
  refine cc_of [(Str.ofString "yes", .bool b)] (by k_is) (by k_is) (by kernel_rfl) (by k_extra "isb") (by kernel_rfl) (by kernel_rfl) (by kernel_rfl) (by kernel_rfl) (by kernel_rfl) ?_
  intro cx news kz hp hk
  k_extra "w"
noncomputable def plainNum (k n : Int) : Int := if k = 8 then Builtin.bitAnd n 4294967295 else if k = 10 then Builtin.bitAnd n 18446744073709551615 else n
theorem c_plain_number (w : World) (k n : Int) (t u : Tok) : CP w 1 1163 [.int k t, .int n u] (fun _ => True) (fun t => .int (plainNum k n) t) := by
  refine cc_of [(Str.ofString "n", .int n u), (Str.ofString "kind", .int k t)] (by k_is) (by k_is) (by kernel_rfl) (by k_extra "isb") (by kernel_rfl) (by kernel_rfl) (by kernel_rfl) (by kernel_rfl) (by kernel_rfl) ?_
  intro cx news kz hp hk
  k_extra "w"
  · exact endI hk (if_pos (dT ‹_›)).symm
  · rename_i e1 e2
    exact endI hk (by unfold plainNum; rw [if_neg (dF e1), if_pos (dT e2)])
  · rename_i e1 e2
    exact endI hk (by unfold plainNum; rw [if_neg (dF e1), if_neg (dF e2)])
noncomputable def lbits (k : Int) : Int := ([0, 8, 16, 8, 8, 16, 16, 32, 32, 64, 64, 32] : List Int).getD k.toNat 0
theorem kcn : ∀ j < 12, 1 ≤ j → j = 1 ∨ j = 2 ∨ j = 3 ∨ j = 4 ∨ j = 5 ∨ j = 6 ∨ j = 7 ∨ j = 8 ∨ j = 9 ∨ j = 10 ∨ j = 11 := by decide
theorem kcases {k : Int} (h1 : 1 ≤ k) (h2 : k ≤ 11) : k = 1 ∨ k = 2 ∨ k = 3 ∨ k = 4 ∨ k = 5 ∨ k = 6 ∨ k = 7 ∨ k = 8 ∨ k = 9 ∨ k = 10 ∨ k = 11 := by
  obtain ⟨j, rfl⟩ : ∃ j : Nat, k = j := ⟨k.toNat, (Int.toNat_of_nonneg (Int.le_trans (by decide) h1)).symm⟩
  rcases kcn j (by omega) (by omega) with e | e | e | e | e | e | e | e | e | e | e <;> subst e <;> decide
theorem scn : ∀ j < 7, j = 0 ∨ j = 1 ∨ j = 2 ∨ j = 3 ∨ j = 4 ∨ j = 5 ∨ j = 6 := by decide
theorem scases {k : Int} (h1 : 0 ≤ k) (h2 : k ≤ 6) : k = 0 ∨ k = 1 ∨ k = 2 ∨ k = 3 ∨ k = 4 ∨ k = 5 ∨ k = 6 := by
  obtain ⟨j, rfl⟩ : ∃ j : Nat, k = j := ⟨k.toNat, (Int.toNat_of_nonneg h1).symm⟩
  rcases scn j (by omega) with e | e | e | e | e | e | e <;> subst e <;> decide
theorem lbits_le (k : Int) (h1 : 1 ≤ k) (h2 : k ≤ 11) : 8 ≤ lbits k ∧ lbits k ≤ 64 := by
  rcases kcases h1 h2 with h | h | h | h | h | h | h | h | h | h | h <;> subst h <;> decide
theorem c_law_bits (w : World) (k : Int) (t : Tok) : CP w 1 1365 [.int k t] (fun _ => 1 ≤ k ∧ k ≤ 11) (fun t => .int (lbits k) t) := by
  refine cc_of [(Str.ofString "kind", .int k t)] (by k_is) (by k_is) (by kernel_rfl) (by k_extra "isb") (by kernel_rfl) (by kernel_rfl) (by kernel_rfl) (by kernel_rfl) (by kernel_rfl) ?_
  intro cx news kz hp hk
  obtain ⟨h1, h2⟩ := hp
  refine Wb.retG ?_
  refine @Go.ev w 0 cx _ _ _ _ (fun t => .int (lbits k) t) _ ?_ hk
  refine @Ev.pickL w 0 cx _ _ _ _ _ _ _ _ [0, 8, 16, 8, 8, 16, 16, 32, 32, 64, 64, 32] k ?_ ?_ (by omega) (by show _ < 12; omega) (by kernel_rfl) (by kernel_rfl)
  · refine @EvL.ints w _ _ _ _ _ _ _ [0, 8, 16, 8, 8, 16, 16, 32, 32, 64, 64, 32] ?_
    kernel_rfl
  · intro _
    k_extra "e"


/-- the world's fixed part: addresses of its named objects, the entries of its dicts that no ask turns -/
structure Ad where
  a : Nat → Addr
  es : Nat → List DictEntry
  n : Nat → Nat
  rs : List Value
  co : Obj
  cm : List (Int × Value)
  wo : Obj
/-- a thing of the machine's heap, or an item of the source's list -/
structure TR where
  a : Addr
  d : Addr
  es : List DictEntry
  n : Nat
  kind : Int
  sl : Addr
  vs : List Value
  c : Nat
/-- what an ask turns -/
structure St where
  hes : List DictEntry
  tl : List TR
  thn : Nat
  hat : Obj
  st : Obj
  sk : List (Int × Value)
  il : List TR
  itn : Nat
  kept : List Value
  kn : Nat
noncomputable abbrev thv (l : List TR) : List Value := l.map fun r => Value.ref r.a
noncomputable def hkv : List TR → List (Int × Value) → List (Int × Value)
  | [], acc => acc
  | r :: l, acc => hkv l (acc ++ [(((16 + 3 * acc.length : Nat) : Int), Value.ref r.a)])
noncomputable def tab (A : Ad) (S : St) : Nat → Option Obj
  | 0 => some (instObj 122 (A.a 1))
  | 1 => some (dictOf (A.es 1) (A.n 1))
  | 2 => some (listOf A.rs.toArray (A.n 2))
  | 3 => some (instObj 766 (A.a 4))
  | 4 => some (dictOf (A.es 4) (A.n 4))
  | 5 => some (instObj 815 (A.a 6))
  | 6 => some (dictOf S.hes (A.n 6))
  | 7 => some (listOf (thv S.tl).toArray S.thn)
  | 8 => some S.hat
  | 9 => some (instObj 1110 (A.a 10))
  | 10 => some (dictOf (A.es 10) (A.n 10))
  | 11 => some S.st
  | 12 => some (instObj 864 (A.a 13))
  | 13 => some (dictOf (A.es 13) (A.n 13))
  | 14 => some (instObj 1316 (A.a 15))
  | 15 => some (dictOf (A.es 15) (A.n 15))
  | 16 => some (listOf (Value.none :: thv S.il).toArray S.itn)
  | 17 => some A.co
  | 18 => some A.wo
  | 19 => some (listOf S.kept.toArray S.kn)
  | _ => none
noncomputable def NT (A : Ad) (x : Addr) : Prop := ∀ j ∈ [6, 7, 8, 11, 16, 19], x ≠ A.a j
noncomputable def Fz (A : Ad) (news : List (Addr × Obj)) (a : Addr) (o : Obj) : Prop := (a, o) ∈ news ∧ NT A a
noncomputable def Ext (A : Ad) (news news' : List (Addr × Obj)) : Prop := ∀ p ∈ news, NT A p.1 → p ∈ news'
theorem Fz.ext {A : Ad} {news news' : List (Addr × Obj)} {a : Addr} {o : Obj} (h : Fz A news a o) (e : Ext A news news') : Fz A news' a o := ⟨e _ h.1 h.2, h.2⟩
theorem Fz.mem {A : Ad} {news : List (Addr × Obj)} {a : Addr} {o : Obj} (h : Fz A news a o) : (a, o) ∈ news := h.1
theorem NT.at {A : Ad} {x : Addr} {j : Nat} (h : NT A x) (hj : j ∈ [6, 7, 8, 11, 16, 19]) : x ≠ A.a j := h j hj
theorem Ext.refl {A : Ad} {news : List (Addr × Obj)} : Ext A news news := fun _ h _ => h
theorem Ext.trans {A : Ad} {n1 n2 n3 : List (Addr × Obj)} (h : Ext A n1 n2) (g : Ext A n2 n3) : Ext A n1 n3 := fun p hp hn => g p (h p hp hn) hn
theorem Ext.cons {A : Ad} {n1 n2 : List (Addr × Obj)} {p : Addr × Obj} (h : Ext A n1 n2) : Ext A n1 (p :: n2) := fun q hq hn => List.mem_cons_of_mem _ (h q hq hn)
theorem Ext.foc {A : Ad} {n1 n2 : List (Addr × Obj)} {j : Nat} {o : Obj} (h : Ext A n1 n2) (hj : j ∈ [6, 7, 8, 11, 16, 19]) : Ext A n1 (foc (A.a j) o n2) := fun q hq hn => List.mem_cons_of_mem _ (mem_foc (h q hq hn) (hn j hj))
noncomputable def iv (t : Tok) (n : Int) : Value := .int n t
/-- a record of the lists: its object, its dict, its list of slots, all frozen -/
structure RecIn (A : Ad) (cls : Addr) (news : List (Addr × Obj)) (r : TR) : Prop where
  inst : Fz A news r.a (instObj cls r.d)
  dict : Fz A news r.d (dictOf r.es r.n)
  slots : Fz A news r.sl (listOf r.vs.toArray r.c)
  gkind : ∃ t, getL (Str.ofString "kind") r.es = some (some (.int r.kind t))
  gslots : getL (Str.ofString "slots") r.es = some (some (.ref r.sl))
  len : r.vs.length ≤ 1
structure ThIn (A : Ad) (news : List (Addr × Obj)) (i : Nat) (r : TR) : Prop where
  rec_ : RecIn A 794 news r
  gaddr : ∃ t, getL (Str.ofString "addr") r.es = some (some (.int (16 + 3 * i) t))
  gsize : ∃ t, getL (Str.ofString "size") r.es = some (some (.int 3 t))
theorem RecIn.ext {A : Ad} {cls : Addr} {n1 n2 : List (Addr × Obj)} {r : TR} (h : RecIn A cls n1 r) (e : Ext A n1 n2) : RecIn A cls n2 r :=
  ⟨h.inst.ext e, h.dict.ext e, h.slots.ext e, h.gkind, h.gslots, h.len⟩
theorem ThIn.ext {A : Ad} {n1 n2 : List (Addr × Obj)} {i : Nat} {r : TR} (h : ThIn A n1 i r) (e : Ext A n1 n2) : ThIn A n2 i r := ⟨h.rec_.ext e, h.gaddr, h.gsize⟩
inductive Same (A : Ad) (news : List (Addr × Obj)) : List Value → List Value → Prop
  | copy (vs : List Value) (h : vs.length ≤ 2) : Same A news vs vs
  | num (n : Int) (t u : Tok) : Same A news [.int n t] [.int n u]
  | pair (a b : Addr) (k n : Int) (t u t' u' : Tok) (h : Fz A news a (tp [.int k t, .int n u])) (g : Fz A news b (tp [.int k t', .int n u'])) : Same A news [.ref a] [.ref b]
theorem Same.ext {A : Ad} {n1 n2 : List (Addr × Obj)} {x y : List Value} (h : Same A n1 x y) (e : Ext A n1 n2) : Same A n2 x y := by
  cases h with
  | copy vs h => exact .copy _ h
  | num n t u => exact .num n t u
  | pair a b k n t u t' u' h g => exact .pair a b k n t u t' u' (h.ext e) (g.ext e)
structure KeptIn (A : Ad) (news : List (Addr × Obj)) (v : Value) : Prop where
  ex : ∃ p c e vs us cn en, v = .ref p ∧ Fz A news p (tp [.ref c, .ref e]) ∧ Fz A news c (listOf vs.toArray cn) ∧ Fz A news e (listOf us.toArray en) ∧ Same A news vs us
theorem KeptIn.ext {A : Ad} {n1 n2 : List (Addr × Obj)} {v : Value} (h : KeptIn A n1 v) (e : Ext A n1 n2) : KeptIn A n2 v := by
  obtain ⟨p, c, d, vs, us, cn, en, h1, h2, h3, h4, h5⟩ := h.ex
  exact ⟨p, c, d, vs, us, cn, en, h1, h2.ext e, h3.ext e, h4.ext e, h5.ext e⟩
noncomputable def coreCls (i : Nat) : Addr := if 33 ≤ i then 698 else if i % 3 = 0 then 620 else if i % 3 = 1 then 646 else 672
noncomputable def coreKind (i : Nat) : Int := if i = 33 then 7 else if i = 34 then 9 else 1 + (i / 3 : Nat)
structure Wd (w : World) (A : Ad) (S : St) (news : List (Addr × Obj)) : Prop where
  mem : ∀ i o, tab A S i = some o → (A.a i, o) ∈ news
  inj : ∀ i j, i < 20 → j < 20 → A.a i = A.a j → i = j
  kt_rows : getL (Str.ofString "rows") (A.es 1) = some (some (.ref (A.a 2)))
  st_kt : getL (Str.ofString "kt") (A.es 4) = some (some (.ref (A.a 0)))
  m_kt : getL (Str.ofString "kt") (A.es 10) = some (some (.ref (A.a 0)))
  m_heap : getL (Str.ofString "heap") (A.es 10) = some (some (.ref (A.a 5)))
  m_statics : getL (Str.ofString "statics") (A.es 10) = some (some (.ref (A.a 11)))
  m_places : getL (Str.ofString "places") (A.es 10) = some (some (.ref (A.a 12)))
  p_heap : getL (Str.ofString "heap") (A.es 13) = some (some (.ref (A.a 5)))
  p_statics : getL (Str.ofString "statics") (A.es 13) = some (some (.ref (A.a 11)))
  e_store : getL (Str.ofString "store") (A.es 15) = some (some (.ref (A.a 3)))
  e_kt : getL (Str.ofString "kt") (A.es 15) = some (some (.ref (A.a 0)))
  e_things : getL (Str.ofString "things") (A.es 15) = some (some (.ref (A.a 16)))
  e_core : getL (Str.ofString "core") (A.es 15) = some (some (.ref (A.a 17)))
  wd : A.wo.IsDictOf (strKind pg w) [(Str.ofString "ev", .ref (A.a 14)), (Str.ofString "m", .ref (A.a 9)), (Str.ofString "kept", .ref (A.a 19))]
  kt_norow : getL (Str.ofString "row") (A.es 1) = some none
  e_noseen : getL (Str.ofString "seen_as") (A.es 15) = some none
  lo8 : (A.a 8 == sysModules) = false
  lo11 : (A.a 11 == sysModules) = false
  lo17 : (A.a 17 == sysModules) = false
  lo18 : (A.a 18 == sysModules) = false
  h_things : getL (Str.ofString "things") S.hes = some (some (.ref (A.a 7)))
  h_at : getL (Str.ofString "at") S.hes = some (some (.ref (A.a 8)))
  h_top : ∃ t, getL (Str.ofString "top") S.hes = some (some (.int (16 + 3 * (S.tl.length : Nat)) t))
  h_made : ∃ t, getL (Str.ofString "made") S.hes = some (some (.int (S.tl.length : Nat) t))
  h_fresh : ∃ t, getL (Str.ofString "fresh") S.hes = some (some (.int (3 * (S.tl.length : Nat)) t))
  h_len : S.hes.length ≤ 1000
  rlen : A.rs.length = 16
  rows : ∀ i : Nat, i < 16 → ∃ r t u, A.rs[i]? = some (.ref r) ∧ Fz A news r (tp [.int 1 t, .int i u])
  hat : S.hat.IsDictOf (intKind pg w) (hkv S.tl [])
  sta : S.st.IsDictOf (intKind pg w) S.sk
  core : A.co.IsDictOf (intKind pg w) A.cm
  cores : ∀ i : Nat, i < 35 → ∃ x d es n t, A.cm.lookup (70 + (i : Int)) = some (.ref x) ∧ Fz A news x (instObj (coreCls i) d) ∧ Fz A news d (dictOf es n) ∧ getL (Str.ofString "k") es = some (some (.int (coreKind i) t)) ∧ getL (Str.ofString "call") es = some none
  things : ∀ (i : Nat) (r : TR), S.tl[i]? = some r → ThIn A news i r
  items : ∀ (i : Nat) (r : TR), S.il[i]? = some r → RecIn A 361 news r
  kepts : ∀ v ∈ S.kept, KeptIn A news v
theorem Wd.ne {w : World} {A : Ad} {S : St} {news : List (Addr × Obj)} (h : Wd w A S news) {i j : Nat} (hi : i < 20) (hj : j < 20) (hn : i ≠ j) : A.a i ≠ A.a j := fun e => hn (h.inj i j hi hj e)
theorem Wd.nt {w : World} {A : Ad} {S : St} {news : List (Addr × Obj)} (h : Wd w A S news) {x : Addr} (hx : ∀ p ∈ news, p.1 < x) : NT A x := fun j hj e => by
  have hm : ∃ o, tab A S j = some o := by
    simp only [List.mem_cons, List.not_mem_nil, or_false] at hj
    rcases hj with rfl | rfl | rfl | rfl | rfl | rfl <;> exact ⟨_, rfl⟩
  obtain ⟨o, ho⟩ := hm
  have := hx _ (h.mem j o ho)
  dsimp only at this
  rw [e] at this
  exact absurd this (Nat.lt_irrefl _)
/-- the world stands in a ledger that keeps what was frozen and what is turned -/
theorem Wd.keep {w : World} {A : Ad} {S : St} {news news' : List (Addr × Obj)} (h : Wd w A S news) (e : ∀ p ∈ news, p ∈ news') : Wd w A S news' :=
  have x : Ext A news news' := fun p hp _ => e p hp
  { h with
    mem := fun i o ho => e _ (h.mem i o ho)
    rows := fun i hi => by obtain ⟨r, t, u, h1, h2⟩ := h.rows i hi; exact ⟨r, t, u, h1, h2.ext x⟩
    cores := fun i hi => by obtain ⟨y, d, es, n, t, h1, h2, h3, h4⟩ := h.cores i hi; exact ⟨y, d, es, n, t, h1, h2.ext x, h3.ext x, h4⟩
    things := fun i r hr => (h.things i r hr).ext x
    items := fun i r hr => (h.items i r hr).ext x
    kepts := fun v hv => (h.kepts v hv).ext x }
theorem Wd.cons {w : World} {A : Ad} {S : St} {news : List (Addr × Obj)} {p : Addr × Obj} (h : Wd w A S news) : Wd w A S (p :: news) := h.keep fun _ => List.mem_cons_of_mem _
theorem tab_lt {A : Ad} {S : St} {i : Nat} {o : Obj} (h : tab A S i = some o) : i < 20 := by
  refine Nat.lt_of_not_le fun hi => ?_
  obtain ⟨k, rfl⟩ : ∃ k, i = k + 20 := ⟨i - 20, by omega⟩
  cases h
theorem tab_fix {A : Ad} {S S' : St} : ∀ i : Nat, i ∉ [6, 7, 8, 11, 16, 19] → tab A S' i = tab A S i
  | 0, _ => rfl
  | 1, _ => rfl
  | 2, _ => rfl
  | 3, _ => rfl
  | 4, _ => rfl
  | 5, _ => rfl
  | 6, h => absurd (by decide) h
  | 7, h => absurd (by decide) h
  | 8, h => absurd (by decide) h
  | 9, _ => rfl
  | 10, _ => rfl
  | 11, h => absurd (by decide) h
  | 12, _ => rfl
  | 13, _ => rfl
  | 14, _ => rfl
  | 15, _ => rfl
  | 16, h => absurd (by decide) h
  | 17, _ => rfl
  | 18, _ => rfl
  | 19, h => absurd (by decide) h
  | _ + 20, _ => rfl
theorem tab_sub {A : Ad} {S S' : St} {j : Nat} (h6 : 6 ≠ j → tab A S' 6 = tab A S 6) (h7 : 7 ≠ j → tab A S' 7 = tab A S 7) (h8 : 8 ≠ j → tab A S' 8 = tab A S 8) (h11 : 11 ≠ j → tab A S' 11 = tab A S 11) (h16 : 16 ≠ j → tab A S' 16 = tab A S 16) (h19 : 19 ≠ j → tab A S' 19 = tab A S 19) (i : Nat) (hi : i ≠ j) :
    tab A S' i = tab A S i :=
  if h : i ∈ [6, 7, 8, 11, 16, 19] then
    (List.forall_mem_cons.mpr ⟨h6, List.forall_mem_cons.mpr ⟨h7, List.forall_mem_cons.mpr ⟨h8, List.forall_mem_cons.mpr ⟨h11, List.forall_mem_cons.mpr ⟨h16, List.forall_mem_cons.mpr ⟨h19, List.forall_mem_nil _⟩⟩⟩⟩⟩⟩ : ∀ i ∈ [6, 7, 8, 11, 16, 19], i ≠ j → tab A S' i = tab A S i) i h hi
  else tab_fix i h
theorem Wd.turned {w : World} {A : Ad} {S S' : St} {news : List (Addr × Obj)} (h : Wd w A S news) {j : Nat} (hj : j < 20) {o' : Obj} (ht : tab A S' j = some o') (hs : ∀ i, i ≠ j → tab A S' i = tab A S i) :
    ∀ i o, tab A S' i = some o → (A.a i, o) ∈ foc (A.a j) o' news := fun i o ho => by
  by_cases e : i = j
  · subst e
    rw [ht] at ho
    cases ho
    exact .head _
  · rw [hs i e] at ho
    exact List.mem_cons_of_mem _ (mem_foc (h.mem i o ho) (h.ne (tab_lt ho) hj e))
theorem Wd.nt2 {w : World} {A : Ad} {S : St} {news : List (Addr × Obj)} (h : Wd w A S news) {x d : Addr} (hx : ∀ p ∈ news, p.1 < d) (l : d < x) : NT A x := h.nt fun p hp => Nat.lt_trans (hx p hp) l
theorem Wd.addItem {w : World} {A : Ad} {S : St} {news : List (Addr × Obj)} (h : Wd w A S news) {r : TR} (hr : RecIn A 361 news r) {o' : Obj} {n' : Nat} (ho : o' = listOf (Value.none :: thv S.il ++ [Value.ref r.a]).toArray n') :
    Wd w A { S with il := S.il ++ [r], itn := n' } (foc (A.a 16) o' news) ∧ Ext A news (foc (A.a 16) o' news) :=
  have x : Ext A news (foc (A.a 16) o' news) := Ext.foc Ext.refl (by decide)
  ⟨{ h with
    mem := h.turned (by decide) (by subst ho; exact congrArg (fun l => some (listOf (Value.none :: l).toArray n')) List.map_append) (tab_sub (fun _ => rfl) (fun _ => rfl) (fun _ => rfl) (fun _ => rfl) (fun e => absurd rfl e) (fun _ => rfl))
    rows := fun i hi => by obtain ⟨r, t, u, h1, h2⟩ := h.rows i hi; exact ⟨r, t, u, h1, h2.ext x⟩
    cores := fun i hi => by obtain ⟨y, d, es, n, t, h1, h2, h3, h4⟩ := h.cores i hi; exact ⟨y, d, es, n, t, h1, h2.ext x, h3.ext x, h4⟩
    things := fun i r hr => (h.things i r hr).ext x
    items := fun i q hq => by
      by_cases e : i < S.il.length
      · rw [List.getElem?_append_left e] at hq
        exact (h.items i q hq).ext x
      · rw [List.getElem?_append_right (by omega)] at hq
        have : q = r := by
          cases e0 : i - S.il.length with
          | zero => rw [e0] at hq; exact (Option.some.inj hq).symm
          | succ k => rw [e0] at hq; cases hq
        subst this
        exact hr.ext x
    kepts := fun v hv => (h.kepts v hv).ext x }, x⟩
theorem wv_ev (A : Ad) : valueAt [(Str.ofString "ev", Value.ref (A.a 14)), (Str.ofString "m", .ref (A.a 9)), (Str.ofString "kept", .ref (A.a 19))] (Str.ofString "ev") = some (.ref (A.a 14)) := rfl
theorem wv_m (A : Ad) : valueAt [(Str.ofString "ev", Value.ref (A.a 14)), (Str.ofString "m", .ref (A.a 9)), (Str.ofString "kept", .ref (A.a 19))] (Str.ofString "m") = some (.ref (A.a 9)) := rfl
theorem wv_kept (A : Ad) : valueAt [(Str.ofString "ev", Value.ref (A.a 14)), (Str.ofString "m", .ref (A.a 9)), (Str.ofString "kept", .ref (A.a 19))] (Str.ofString "kept") = some (.ref (A.a 19)) := rfl


section
theorem keysInt {prog : Program} {w : World} {es : Array DictEntry} (h : (es.toList.all fun e => match e.key with | .int k _ => e.hash == hashInt k | _ => false) = true) : PySem.KeysOf (intKind prog w) es := fun e he => by
  have q := List.all_eq_true.mp h e (Array.mem_toList_iff.mpr he)
  revert q
  cases hk : e.key <;> intro q <;> first | cases q | skip
  rename_i k t
  exact ⟨k, intKind_is prog w k t, eq_of_beq q⟩
noncomputable def es80 (P : Params) : Array DictEntry := match (o80 P).data with | .dict es _ => es | _ => #[]
theorem look80 (P : Params) : (KF P).lookup 80 = some ⟨.type "dict", none, .dict (es80 P) 11, #[]⟩ := by kernel_rfl
theorem keys80 (P : Params) : ((es80 P).toList.all fun e => match e.key with | .int k _ => e.hash == hashInt k | _ => false) = true := by kernel_rfl
theorem find80 (P : Params) (k : Int) (h1 : 1 ≤ k) (h2 : k ≤ 11) : findBy Value.isInt (es80 P) k = some (.ref (80 + k.toNat)) := by
  rcases kcases h1 h2 with h | h | h | h | h | h | h | h | h | h | h <;> subst h <;> kernel_rfl
variable {w : World} {A : Around} {E : Value → Shared → Prop} {s : Shared} {h₀ : Heap} {L : Addr} {m : Str → Option Value} {k : Int} {t : Tok}
theorem map80 (F : Fr h₀ L s.heap m) (X : (KF w.params).In h₀) : s.heap.MapOf (intKind pg w) 80 (fun k => findBy Value.isInt (es80 w.params) k) :=
  ⟨_, es80 w.params, 11, F.keep _ _ (X _ _ (look80 w.params)), ⟨rfl, rfl, rfl⟩, rfl, keysInt (keys80 _), fun _ => rfl⟩
theorem notin80 {Q : Value → Shared → Prop} (F : Fr h₀ L s.heap m) (X : (KF w.params).In h₀) (h1 : 1 ≤ k) (h2 : k ≤ 11) (h : Q (.bool false) { s with toks := s.toks + 1 }) :
    wpAny (model pg w) A (compareOp .NotIn (.int k t) (.ref 80)) Q E s :=
  wpAny_notIn_of (intKind_is _ w k t) (by decide) (map80 F X) (by rw [find80 _ _ h1 h2]; exact h)
theorem get80 {value slice : PySem.Expr} {Q : Value → Shared → Prop} (F : Fr h₀ L s.heap m) (X : (KF w.params).In h₀) (h1 : 1 ≤ k) (h2 : k ≤ 11) (h : Q (.ref (80 + k.toNat)) { s with toks := s.toks + 1 })
    (hs : subscripted slice false (.ref 80) (.int k t) = operate [.ref 80, .int k t] (getItem (.ref 80) (.int k t)) := by with_unfolding_all rfl) :
    wpAny (model pg w) A (subscriptTail value slice (.ref 80) (.int k t)) Q E s :=
  have hm := map80 F X
  tail_any hm.typeIs slot_dict_getitem.lookup (wpAny_getItem_of (intKind_is _ w k t) hm (find80 _ _ h1 h2) h) hs
end
section
variable {w : World} {D : Nat} {c : Cx} {cs : Scope} {mm : Locs} {news : Led}
theorem Cmp.notin80 {k : Int} (h1 : 1 ≤ k) (h2 : k ≤ 11) : Cmp w D c cs mm news .NotIn (fun t => .int k t) (fun _ => .ref 80) false :=
  fun _ _ => Go.raw fun O s _ _ m F hm N q => Hd.notin80 F O.X h1 h2 (q _ news s.heap _ m F hm N ⟨rfl, rfl⟩)
theorem Ev.get80 {value slice : PySem.Expr} {pos : Pos} {k : Int} (hv : Ev w D c cs mm news value fun _ => .ref 80) (hs : Ev w D c cs mm news slice fun t => .int k t) (h1 : 1 ≤ k) (h2 : k ≤ 11) (hn : notSlice slice = true) : Ev w D c cs mm news (.Subscript value slice pos) fun _ => .ref (80 + k.toNat) :=
  fun O s Q E S q => by
    refine Subscript_ (hv.go O S fun t g1 tk1 S1 => hs.go O S1 fun u g2 tk2 S2 => ?_)
    obtain ⟨m, F, hmm, N⟩ := S2.open'
    exact Hd.get80 (s := { s with heap := g2, toks := tk2 }) F O.X h1 h2 (q _ news g2 _ S2 ⟨rfl, 0, rfl⟩) (subscripted_int hn)
end
theorem c_int_range (w : World) (k : Int) (t : Tok) : CP w 1 252 [.int k t] (fun _ => 1 ≤ k ∧ k ≤ 11) (fun _ => .ref (80 + k.toNat)) := by
  refine cc_of [(Str.ofString "k", .int k t)] (by k_is) (by k_is) (by kernel_rfl) (by k_extra "isb") (by kernel_rfl) (by kernel_rfl) (by kernel_rfl) (by kernel_rfl) (by kernel_rfl) ?_
  intro cx news kz hp hk
  obtain ⟨h1, h2⟩ := hp
  k_with "c" => first | (with_reducible show Cmp _ _ _ _ _ _ CmpOp.NotIn _ _ _); exact Cmp.notin80 (by assumption) (by assumption) | fail
  k_with "sub" => first | fail | fail
  k_with "e" => first | (with_reducible show Ev _ _ _ _ _ _ (Expr.Subscript (Expr.Name (Str.ofString "INT_RANGES") _) _ _) _); exact Ev.get80 (by k_extra "e") (by k_extra "e") (by assumption) (by assumption) (by kernel_rfl) | fail
  k_extra "w"
noncomputable def loK (k : Int) : Int := ([0, 0, 0, -128, 0, -32768, 0, -2147483648, 0, -9223372036854775808, 0, -2147483648] : List Int).getD k.toNat 0
noncomputable def hiK (k : Int) : Int := ([0, 255, 65535, 127, 255, 32767, 65535, 2147483647, 4294967295, 9223372036854775807, 18446744073709551615, 2147483647] : List Int).getD k.toNat 0
theorem tup80 (P : Params) (k : Int) (h1 : 1 ≤ k) (h2 : k ≤ 11) : ∃ t u, (KF P).lookup (80 + k.toNat) = some (tp [.int (loK k) t, .int (hiK k) u]) := by
  rcases kcases h1 h2 with h | h | h | h | h | h | h | h | h | h | h <;> subst h
  · exact ⟨407, 408, by kernel_rfl⟩
  · exact ⟨409, 410, by kernel_rfl⟩
  · exact ⟨412, 413, by kernel_rfl⟩
  · exact ⟨414, 415, by kernel_rfl⟩
  · exact ⟨417, 418, by kernel_rfl⟩
  · exact ⟨419, 420, by kernel_rfl⟩
  · exact ⟨422, 423, by kernel_rfl⟩
  · exact ⟨424, 425, by kernel_rfl⟩
  · exact ⟨427, 428, by kernel_rfl⟩
  · exact ⟨429, 430, by kernel_rfl⟩
  · exact ⟨432, 433, by kernel_rfl⟩
theorem lohi (k : Int) (h1 : 1 ≤ k) (h2 : k ≤ 11) : -9223372036854775808 ≤ loK k ∧ loK k ≤ 0 ∧ 127 ≤ hiK k ∧ hiK k ≤ 18446744073709551615 := by
  rcases kcases h1 h2 with h | h | h | h | h | h | h | h | h | h | h <;> subst h <;> decide
theorem c_row (w : World) (A : Ad) (S : St) (kk : Int) (r : Addr) (t : Tok) : CP w 1 112 [.ref (A.a 0), .int kk t] (fun news => Wd w A S news ∧ 0 ≤ kk ∧ kk < 16 ∧ A.rs[kk.toNat]? = some (.ref r)) (fun _ => .ref r) := by
  refine cc_of [(Str.ofString "k", .int kk t), (Str.ofString "self", .ref (A.a 0))] (by k_is) (by k_is) (by kernel_rfl) (by k_extra "isb") (by kernel_rfl) (by kernel_rfl) (by kernel_rfl) (by kernel_rfl) (by kernel_rfl) ?_
  intro cx news kz hp hk
  obtain ⟨hW, h0, h16, hx⟩ := hp
  have a1 := hW.kt_rows
  have a2 := hW.rlen
  k_extra "w"
theorem Wd.rowAt {w : World} {A : Ad} {S : St} {news : Led} (h : Wd w A S news) {kk : Int} (h0 : 0 ≤ kk) (h1 : kk < 16) : ∃ r t u, A.rs[kk.toNat]? = some (.ref r) ∧ (r, tp [.int 1 t, .int kk u]) ∈ news := by
  obtain ⟨r, t, u, a, b, _⟩ := h.rows kk.toNat (by omega)
  rw [Int.toNat_of_nonneg h0] at b
  exact ⟨r, t, u, a, b⟩
theorem c_kind_sort (w : World) (A : Ad) (S : St) (kk : Int) (t : Tok) : CP w 2 182 [.ref (A.a 0), .int kk t] (fun news => Wd w A S news ∧ 0 ≤ kk ∧ kk < 16) (fun t => .int 1 t) := by
  refine cc_of [(Str.ofString "k", .int kk t), (Str.ofString "kt", .ref (A.a 0))] (by k_is) (by k_is) (by kernel_rfl) (by k_extra "isb") (by kernel_rfl) (by kernel_rfl) (by kernel_rfl) (by kernel_rfl) (by kernel_rfl) ?_
  intro cx news kz hp hk
  obtain ⟨hW, h0, h16⟩ := hp
  have a3 := hW.kt_norow
  obtain ⟨r, t9, u9, hx, hr⟩ := hW.rowAt h0 h16
  refine Wb.retG (Go.item (Go.methA (x := A.a 0) (dx := A.a 1) (C := 122) (f := 112) (Go.ev (V := fun _ => .ref (A.a 0)) (by k_extra "e") fun _ => ⟨rfl, hW.mem 0 _ rfl, hW.mem 1 _ rfl, a3, by kernel_rfl, ?_⟩) (by kernel_rfl)) (by kernel_rfl))
  exact EvA.cons (by k_extra "e") (by kernel_rfl) fun _ => EvA.nil (Go.ctr (c_row w A S kk r _) (by decide) ⟨hW, h0, h16, hx⟩ (fun _ _ h g t => h _ _ (g t)) fun _ => ⟨r, _, 0, 0, _, rfl, hr, by k_extra "e", rfl, by kernel_rfl, rfl, hk _⟩)
theorem c_plain_kind (w : World) (A : Ad) (S : St) (k : Int) (t : Tok) : CP w 3 302 [.ref (A.a 3), .int k t] (fun news => Wd w A S news ∧ 1 ≤ k ∧ k ≤ 11) (fun t => .int k t) := by
  refine cc_of [(Str.ofString "k", .int k t), (Str.ofString "store", .ref (A.a 3))] (by k_is) (by k_is) (by kernel_rfl) (by k_extra "isb") (by kernel_rfl) (by kernel_rfl) (by kernel_rfl) (by kernel_rfl) (by kernel_rfl) ?_
  intro cx news kz hp hk
  obtain ⟨hW, h1, h2⟩ := hp
  have a1 := hW.st_kt
  k_with "cc" => first | exact c_kind_sort w A S k _ | fail
  k_with "pre" => first | exact ⟨hW, by omega, by omega⟩ | fail
  k_extra "w"
theorem c_is_value (w : World) (x : Addr) (k : Int) (t : Tok) : CP w 1 203 [.ref x, .int k t] (fun news => 1 ≤ k ∧ k ≤ 11) (fun _ => .bool true) := by
  refine cc_of [(Str.ofString "k", .int k t), (Str.ofString "kt", .ref x)] (by k_is) (by k_is) (by kernel_rfl) (by k_extra "isb") (by kernel_rfl) (by kernel_rfl) (by kernel_rfl) (by kernel_rfl) (by kernel_rfl) ?_
  intro cx news kz hp hk
  obtain ⟨h1, h2⟩ := hp
  k_extra "w"
noncomputable def twin (k v : Int) : Int := loK k + Int.fmod (v - loK k) (hiK k - loK k + 1)
theorem c_as_twin (w : World) (A : Ad) (S : St) (k v : Int) (t u : Tok) : CP w 5 1358 [.ref (A.a 14), .int k t, .int v u] (fun news => Wd w A S news ∧ 1 ≤ k ∧ k ≤ 11 ∧ -(2 ^ 70) ≤ v ∧ v ≤ 2 ^ 70) (fun t => .int (twin k v) t) := by
  refine cc_of [(Str.ofString "value", .int v u), (Str.ofString "k", .int k t), (Str.ofString "ev", .ref (A.a 14))] (by k_is) (by k_is) (by kernel_rfl) (by k_extra "isb") (by kernel_rfl) (by kernel_rfl) (by kernel_rfl) (by kernel_rfl) (by kernel_rfl) ?_
  intro cx news kz hp hk
  obtain ⟨hW, h1, h2, h3, h4⟩ := hp
  have a1 := hW.e_store
  have a2 := hW.e_kt
  have b0 : hiK k - loK k + 1 ≠ 0 := by have := lohi k h1 h2; omega
  obtain ⟨t8, u8, hx8⟩ := tup80 w.params k h1 h2
  k_with "cc" => first | exact c_plain_kind w A S k _ | exact c_is_value w _ k _ | exact c_int_range w k _ | fail
  k_with "pre" => first | exact ⟨hW, h1, h2⟩ | exact ⟨h1, h2⟩ | fail
  k_extra "w"
  exact hk


section
theorem subL_of {all : List (Addr × Obj)} : ∀ {l : List (Addr × Obj)}, (∀ p ∈ l, p ∈ all) → SubL l all
  | [], _ => trivial
  | p :: _, h => ⟨h p (.head _), subL_of fun q hq => h q (.tail _ hq)⟩
theorem offW_of {I : Addr} {o : Obj} : ∀ {l : List (Addr × Obj)}, (∀ p ∈ l, p.1 < I) → OffW [(I, o)] l
  | [], _ => trivial
  | q :: _, h => ⟨⟨.inl fun e => by have := h q (.head _); exact absurd (e ▸ this) (Nat.lt_irrefl _), trivial⟩, offW_of fun q hq => h q (.tail _ hq)⟩
theorem unrEnd_op {h₀ h' : Heap} {L I : Addr} {o : Obj} {tk : Nat} {keep news' all : List (Addr × Obj)} {rest : (Str → Option Value) → List (Addr × Obj) → Prop} {s₁ : Shared} {m' : Str → Option Value}
    (F : Fr h₀ L h' m') (N : News h₀ L h' all) (hI : (I, o) ∈ all) (sub : ∀ p ∈ news', p ∈ all) (lt : ∀ p ∈ news', p.1 < I) (k : SubL keep news') (r : rest m' news') :
    UnrEndW h₀ L s₁ [(I, o)] (fun m' n' => SubL keep n' ∧ rest m' n') { s₁ with heap := h', toks := tk } :=
  UnrEndW.intro F N news' ⟨hI, trivial⟩ (subL_of sub) (offW_of lt) ⟨k, r⟩
end
inductive Src (A : Ad) (news : List (Addr × Obj)) (t1 : Addr) (n : Int) : Prop
  | box (c st : Addr) (cn : Nat) (t u : Tok) (h1 : Fz A news t1 (tp [.ref c, .int 0 t, .ref st])) (h2 : Fz A news c (listOf [Value.int n u].toArray cn)) (h3 : Fz A news st te)
  | stat (c st : Addr) (cn : Nat) (t u x : Tok) (h1 : Fz A news t1 (tp [.ref c, .int 1 t, .ref st])) (h2 : Fz A news c (listOf [Value.int 7 x, Value.int n u].toArray cn)) (h3 : Fz A news st te)
  | deep (c st q q2 : Addr) (cn : Nat) (t u x y z1 z2 : Tok) (h1 : Fz A news t1 (tp [.ref c, .int 0 t, .ref st])) (h2 : Fz A news c (listOf [Value.ref q].toArray cn)) (h3 : Fz A news st (tp [.int 1 z1, .int 0 z2]))
    (h4 : Fz A news q (tp [.int 5 x, .ref q2])) (h5 : Fz A news q2 (tp [.int n u, .int 6 y]))
theorem Src.ext {A : Ad} {n1 n2 : List (Addr × Obj)} {t1 : Addr} {n : Int} (h : Src A n1 t1 n) (e : Ext A n1 n2) : Src A n2 t1 n := by
  cases h with
  | box c st cn t u h1 h2 h3 => exact .box c st cn t u (h1.ext e) (h2.ext e) (h3.ext e)
  | stat c st cn t u x h1 h2 h3 => exact .stat c st cn t u x (h1.ext e) (h2.ext e) (h3.ext e)
  | deep c st q q2 cn t u x y z1 z2 h1 h2 h3 h4 h5 => exact .deep c st q q2 cn t u x y z1 z2 (h1.ext e) (h2.ext e) (h3.ext e) (h4.ext e) (h5.ext e)
theorem c_value_at (w : World) (A : Ad) (t1 : Addr) (n : Int) : CP w 1 568 [.ref t1] (fun news => Src A news t1 n) (fun t => .int n t) := by
  refine cc_of [(Str.ofString "place", .ref t1)] (by k_is) (by k_is) (by kernel_rfl) (by k_extra "isb") (by kernel_rfl) (by kernel_rfl) (by kernel_rfl) (by kernel_rfl) (by kernel_rfl) ?_
  intro cx news kz hp hk
  cases hp with
  | box c st cn t u h1 h2 h3 => k_extra "w"
  | stat c st cn t u x h1 h2 h3 => k_extra "w"
  | deep c st q q2 cn t u x y z1 z2 h1 h2 h3 h4 h5 => k_extra "w"


noncomputable def stTag (k : Int) : Int := if k = 9 ∨ k = 10 then 2 else if k = 11 then 3 else 1
theorem c_seen_as (w : World) (A : Ad) (S : St) (k v : Int) (t u : Tok) : CP w 6 1306 [.ref (A.a 14), .int k t, .int v u] (fun news => Wd w A S news ∧ 1 ≤ k ∧ k ≤ 11 ∧ -(2 ^ 70) ≤ v ∧ v ≤ 2 ^ 70) (fun t => .int (twin k v) t) := by
  refine cc_of [(Str.ofString "value", .int v u), (Str.ofString "k", .int k t), (Str.ofString "self", .ref (A.a 14))] (by k_is) (by k_is) (by kernel_rfl) (by k_extra "isb") (by kernel_rfl) (by kernel_rfl) (by kernel_rfl) (by kernel_rfl) (by kernel_rfl) ?_
  intro cx news kz hp hk
  k_with "cc" => first | exact c_as_twin w A S k v _ _ | fail
  k_extra "w"
theorem c_number_at (w : World) (A : Ad) (S : St) (k v : Int) (t1 : Addr) (t : Tok) : CP w 7 596 [.ref (A.a 14), .int k t, .ref t1] (fun news => Wd w A S news ∧ Src A news t1 v ∧ 1 ≤ k ∧ k ≤ 11 ∧ -(2 ^ 70) ≤ v ∧ v ≤ 2 ^ 70) (fun t => .int (twin k v) t) := by
  refine cc_of [(Str.ofString "place", .ref t1), (Str.ofString "k", .int k t), (Str.ofString "ev", .ref (A.a 14))] (by k_is) (by k_is) (by kernel_rfl) (by k_extra "isb") (by kernel_rfl) (by kernel_rfl) (by kernel_rfl) (by kernel_rfl) (by kernel_rfl) ?_
  intro cx news kz hp hk
  obtain ⟨hW, hS, h⟩ := hp
  have a1 := hW.e_noseen
  k_with "cc" => first | exact c_value_at w A t1 v | fail
  refine Wb.retG (Go.methA (x := A.a 14) (dx := A.a 15) (C := 1316) (f := 1306) (Go.ev (V := fun _ => .ref (A.a 14)) (by k_extra "e") fun _ => ⟨rfl, hW.mem 14 _ rfl, hW.mem 15 _ rfl, a1, by kernel_rfl, ?_⟩) (by kernel_rfl))
  exact EvA.cons (by k_extra "e") (by kernel_rfl) fun _ => EvA.cons (V := fun t => .int v t) (by k_extra "e") (by kernel_rfl) fun _ => EvA.nil (Go.ctr (c_seen_as w A S k v _ _) (by decide) ⟨hW, h⟩ (fun _ _ h g t => h _ _ (g t)) hk)
theorem stA {k : Int} (h1 : (decide (1 ≤ k) && decide (k ≤ 8)) = true) : 1 = stTag k := by
  simp only [Bool.and_eq_true, decide_eq_true_eq] at h1
  unfold stTag
  rw [if_neg (by omega), if_neg (by omega)]
theorem stB {k : Int} (h : (decide (k = 9) || (decide (k = 10) || false)) = true) : 2 = stTag k := (if_pos (orE h)).symm
theorem stC {k : Int} (h : decide (k = 11) = true) : 3 = stTag k := by have := dT h; subst this; rfl
theorem c_tag_of (w : World) (x : Addr) (k : Int) (t : Tok) : CP w 1 323 [.ref x, .int k t] (fun _ => 1 ≤ k ∧ k ≤ 11) (fun t => .int (stTag k) t) := by
  refine cc_of [(Str.ofString "k", .int k t), (Str.ofString "kt", .ref x)] (by k_is) (by k_is) (by kernel_rfl) (by k_extra "isb") (by kernel_rfl) (by kernel_rfl) (by kernel_rfl) (by kernel_rfl) (by kernel_rfl) ?_
  intro cx news kz hp hk
  obtain ⟨h1, h2⟩ := hp
  have h3 : (k = 9 ∨ k = 10) ∨ k ≤ 8 ∨ k = 11 := by omega
  k_extra "w"
  · exact endI hk (stA ‹_›)
  · rename_i e1 e2; exact endI hk (stB e2)
  · rename_i e1 e2 e3; exact endI hk (stC e3)
  · rename_i e1 e2 e3
    have f1 := norE e2
    have f2 := dF e3
    simp only [Bool.and_eq_false_iff, decide_eq_false_iff_not] at e1
    exact absurd h3 (by omega)
theorem stTag_cases (k : Int) : stTag k = 1 ∨ stTag k = 2 ∨ stTag k = 3 := by
  unfold stTag
  repeat' split
  all_goals simp
theorem q_int {Q : Value → Shared → Prop} {b c : Int} {t : Tok} {s : Shared} (h : b = c) (q : Q (.int c t) s) : Q (.int b t) s := by rw [h]; exact q
theorem q_bool {Q : Value → Shared → Prop} {b c : Bool} {s : Shared} (h : b = c) (q : Q (.bool c) s) : Q (.bool b) s := by rw [h]; exact q
theorem c_tag_at (w : World) (x : Addr) (k g : Int) (t : Tok) (h : stTag k = g) : CP w 1 323 [.ref x, .int k t] (fun _ => 1 ≤ k ∧ k ≤ 11) (fun t => .int g t) := by subst h; exact c_tag_of w x k t
theorem c_fits (w : World) (x q : Addr) (k n : Int) (t u v : Tok) : CP w 2 337 [.ref x, .ref q, .int k t] (fun news => 1 ≤ k ∧ k ≤ 11 ∧ (q, tp [.int (stTag k) u, .int n v]) ∈ news) (fun _ => .bool true) := by
  refine cc_of [(Str.ofString "k", .int k t), (Str.ofString "value", .ref q), (Str.ofString "kt", .ref x)] (by k_is) (by k_is) (by kernel_rfl) (by k_extra "isb") (by kernel_rfl) (by kernel_rfl) (by kernel_rfl) (by kernel_rfl) (by kernel_rfl) ?_
  intro cx news kz hp hk
  obtain ⟨h1, h2, h3⟩ := hp
  have h4 : 1 ≤ k ∧ k ≤ 11 := ⟨h1, h2⟩
  rcases stTag_cases k with e | e | e
  · rw [e] at h3
    k_with "cc" => first | exact c_tag_at w _ k 1 _ (by assumption) | fail
    k_extra "w"
  · rw [e] at h3
    k_with "cc" => first | exact c_tag_at w _ k 2 _ (by assumption) | fail
    k_extra "w"
  · rw [e] at h3
    k_with "cc" => first | exact c_tag_at w _ k 3 _ (by assumption) | fail
    k_extra "w"
theorem c_store_as (w : World) (x q : Addr) (k n : Int) (t u v : Tok) : CE w 4 316 [.ref x, .int k t, .ref q] (fun news => 1 ≤ k ∧ k ≤ 11 ∧ (q, tp [.int (stTag k) u, .int n v]) ∈ news) (fun news news' v => ∃ a t u, v = .ref a ∧ news' = (a, tp [.int (stTag k) t, .int (cutTo k n) u]) :: news ∧ ∀ p ∈ news, p.1 < a) := by
  refine cc_of [(Str.ofString "value", .ref q), (Str.ofString "k", .int k t), (Str.ofString "kt", .ref x)] (by k_is) (by k_is) (by kernel_rfl) (by k_extra "isb") (by kernel_rfl) (by kernel_rfl) (by kernel_rfl) (by kernel_rfl) (by kernel_rfl) ?_
  intro cx news kz hp hk
  obtain ⟨h1, h2, h3⟩ := hp
  have h4 : 1 ≤ k ∧ k ≤ 11 := ⟨h1, h2⟩
  k_with "cc" => first | exact c_cut_to w k n _ _ | fail
  rcases stTag_cases k with e | e | e
  · rw [e] at h3 hk
    k_with "cc" => first | exact c_tag_at w _ k 1 _ (by assumption) | fail
    k_extra "w"
    refine Wb.retG (Go.tup (by k_extra "es") (by kernel_rfl) fun a τ ha => ?_)
    exact hk _ _ ⟨_, _, _, rfl, rfl, ha⟩
  · rw [e] at h3 hk
    k_with "cc" => first | exact c_tag_at w _ k 2 _ (by assumption) | fail
    k_extra "w"
    refine Wb.retG (Go.tup (by k_extra "es") (by kernel_rfl) fun a τ ha => ?_)
    exact hk _ _ ⟨_, _, _, rfl, rfl, ha⟩
  · rw [e] at h3 hk
    k_with "cc" => first | exact c_tag_at w _ k 3 _ (by assumption) | fail
    k_extra "w"
    refine Wb.retG (Go.tup (by k_extra "es") (by kernel_rfl) fun a τ ha => ?_)
    exact hk _ _ ⟨_, _, _, rfl, rfl, ha⟩
theorem c_words_for (w : World) (n : Int) (t : Tok) : CP w 1 777 [.int n t] (fun _ => 0 ≤ n ∧ n ≤ 1) (fun t => .int 3 t) := by
  refine cc_of [(Str.ofString "count", .int n t)] (by k_is) (by k_is) (by kernel_rfl) (by k_extra "isb") (by kernel_rfl) (by kernel_rfl) (by kernel_rfl) (by kernel_rfl) (by kernel_rfl) ?_
  intro cx news kz hp hk
  obtain ⟨h1, h2⟩ := hp
  k_extra "w"
  all_goals (rename_i e; simp only [decide_eq_true_eq, decide_eq_false_iff_not] at e; exact endI hk (by omega))


theorem hkv_get (r : TR) : ∀ (l : List TR) (acc : List (Int × Value)) (i : Nat), l[i]? = some r → (∀ p ∈ acc, p.1 < 16 + 3 * acc.length) → valueAt (hkv l acc) (16 + 3 * (acc.length + i : Nat)) = some (.ref r.a)
  | [], acc, i, h, _ => by simp at h
  | x :: l, acc, 0, h, ha => by
    have hx : x = r := by simpa using h
    subst hx
    have key : ∀ (l : List TR) (bcc : List (Int × Value)) (v : Value) (k : Int), valueAt bcc k = some v → valueAt (hkv l bcc) k = some v := by
      intro l
      induction l with
      | nil => intro bcc v k h; exact h
      | cons y l ih =>
        intro bcc v k h
        unfold hkv
        refine ih _ _ _ ?_
        unfold valueAt at h ⊢
        rw [List.find?_append]
        cases e : bcc.find? (fun kv => decide (kv.1 = k)) with
        | none => rw [e] at h; cases h
        | some z => rw [e] at h; simpa using h
    unfold hkv
    refine key _ _ _ _ ?_
    unfold valueAt
    rw [List.find?_append]
    have : acc.find? (fun kv => decide (kv.1 = 16 + 3 * ((acc.length + 0 : Nat) : Int))) = none := by
      rw [List.find?_eq_none]
      intro p hp
      have := ha p hp
      simp only [decide_eq_true_eq]
      omega
    rw [this]
    simp
  | x :: l, acc, i + 1, h, ha => by
    unfold hkv
    have h' : l[i]? = some r := by simpa using h
    have := hkv_get r l (acc ++ [(((16 + 3 * acc.length : Nat) : Int), Value.ref x.a)]) i h' (by
      intro p hp
      rcases List.mem_append.mp hp with hp | hp
      · have := ha p hp
        simp only [List.length_append, List.length_cons, List.length_nil]
        omega
      · rcases List.mem_singleton.mp hp with rfl
        simp only [List.length_append, List.length_cons, List.length_nil]
        omega)
    rw [← this]
    congr 1
    simp only [List.length_append, List.length_cons, List.length_nil]
    omega
theorem hkv_none : ∀ (l : List TR) (acc : List (Int × Value)) (i : Nat), (∀ p ∈ acc, p.1 % 3 = 1) → valueAt (hkv l acc) (18 + 3 * (i : Int)) = none
  | [], acc, i, ha => by
    unfold hkv valueAt
    have : acc.find? (fun kv => decide (kv.1 = 18 + 3 * (i : Int))) = none := by
      rw [List.find?_eq_none]
      intro p hp
      have := ha p hp
      simp only [decide_eq_true_eq]
      omega
    rw [this]
    rfl
  | x :: l, acc, i, ha => by
    unfold hkv
    refine hkv_none l _ i ?_
    intro p hp
    rcases List.mem_append.mp hp with hp | hp
    · exact ha p hp
    · rcases List.mem_singleton.mp hp with rfl
      show (((16 + 3 * acc.length : Nat) : Int)) % 3 = 1
      omega
theorem thv_at {l : List TR} {i : Nat} {r : TR} (h : l[i]? = some r) : (thv l)[i]? = some (.ref r.a) := by
  unfold thv
  rw [List.getElem?_map, h]
  rfl
theorem thv_len {l : List TR} : (thv l).length = l.length := List.length_map ..
noncomputable def Halt (P : Prop) : Prop := P
theorem Halt.to {P : Prop} (h : Halt P) : P := h
theorem Halt.of {P : Prop} (h : P) : Halt P := h
theorem CC.up {w : World} {d d' : Nat} {f : Addr} {vs : List Value} {pre : Led → Prop} {T : Led → (Value → Led → Prop) → Prop} (C : CC w d f vs pre T) (h : d ≤ d') : CC w d' f vs pre T :=
  ⟨fun _ _ _ _ _ _ _ _ _ _ _ _ _ _ _ _ _ _ _ _ _ _ _ B F X N T hk hp hd hu ret => C.run _ _ _ _ _ _ _ _ _ _ _ _ _ _ _ _ _ _ _ _ _ _ _ B F X N T hk hp (by omega) (by omega) ret⟩
theorem Wb.locs' {w : World} {D : Nat} {c : Cx} {cs : Scope} {mm mm' : Locs} {news : Led} {ss : List Stmt} {kn : Locs → Led → Prop} {k : Value → Led → Prop} (hm : LocTo mm mm') (h : Wb w D c cs mm' news ss kn k) : Wb w D c cs mm news ss kn k := Wb.locs hm h
theorem c_find_thing (w : World) (A : Ad) (S : St) (i : Nat) (r : TR) (t : Tok) : CP w 1 833 [.ref (A.a 5), .int (18 + 3 * (i : Int)) t] (fun news => Wd w A S news ∧ S.tl[i]? = some r ∧ S.tl.length ≤ 10000) (fun _ => .ref r.a) := by
  refine cc_of [(Str.ofString "word", .int (18 + 3 * (i : Int)) t), (Str.ofString "heap", .ref (A.a 5))] (by k_is) (by k_is) (by kernel_rfl) (by k_extra "isb") (by kernel_rfl) (by kernel_rfl) (by kernel_rfl) (by kernel_rfl) (by kernel_rfl) ?_
  intro cx news kz hp hk
  obtain ⟨hW, hr, hz⟩ := hp
  have a1 := hW.h_at
  have a2 := hW.h_things
  have a3 := hW.hat
  have a4 := hW.lo8
  have a5 := hkv_none S.tl [] i (fun _ h => nomatch h)
  have a6 : i < S.tl.length := (List.getElem?_eq_some_iff.mp hr).1
  have a7 := @thv_len S.tl
  refine Wb.assign (V := fun _ => .none) (by k_extra "e") (by kernel_rfl) (by exact rfl) ?_
  refine Wb.ifF0 (b := false) (Tst.cmp (by k_extra "e") Ev.none (Cmp.isn (b := true) fun _ => rfl) (by kernel_rfl)) rfl ?_
  refine Wb.assign (by k_extra "e") (by kernel_rfl) (by exact rfl) ?_
  refine Wb.assign (V := fun t => .int ((thv S.tl).length : Nat) t) (by k_extra "e") (by kernel_rfl) (by exact rfl) ?_
  refine Wb.locs' (mm' := [(Str.ofString "low", fun t => .int 0 t), (Str.ofString "high", fun t => .int ((thv S.tl).length : Nat) t), (Str.ofString "heap", fun _ => .ref (A.a 5)), (Str.ofString "word", fun t => .int (18 + 3 * (i : Int)) t)]) (by k_extra "loc") ?_
  refine Wb.while (fun M m' n' => n' = news ∧ ∃ low high : Int, M = (high - low).toNat ∧ 0 ≤ low ∧ low ≤ i + 1 ∧ (i : Int) + 1 ≤ high ∧ high ≤ S.tl.length ∧ m' = [(Str.ofString "low", fun t => .int low t), (Str.ofString "high", fun t => .int high t), (Str.ofString "heap", fun _ => .ref (A.a 5)), (Str.ofString "word", fun t => .int (18 + 3 * (i : Int)) t)]) _ ⟨rfl, 0, ((thv S.tl).length : Nat), rfl, Int.le_refl _, by omega, by omega, by omega, rfl⟩ ?_
  rintro M m' n' ⟨rfl, low, high, rfl, b1, b2, b3, b4, rfl⟩
  refine ⟨_, by k_extra "t", ?_, ?_⟩
  · intro hb
    have hlt := of_decide_eq_true hb
    have e0 : Int.fdiv (low + high) 2 = (low + high) / 2 := Int.fdiv_eq_ediv_of_nonneg _ (by omega)
    obtain ⟨j, hj⟩ : ∃ j : Nat, Int.fdiv (low + high) 2 = j := ⟨(Int.fdiv (low + high) 2).toNat, by omega⟩
    obtain ⟨q, hq⟩ : ∃ q, S.tl[j]? = some q := ⟨_, List.getElem?_eq_getElem (by omega)⟩
    have c1 := hW.things j q hq
    have c2 := c1.rec_.inst.1
    have c3 := c1.rec_.dict.1
    obtain ⟨t3, c4⟩ := c1.gaddr
    have c5 := thv_at hq
    have c6 : (Int.fdiv (low + high) 2).toNat = j := by omega
    rw [← c6] at c5
    refine Wb.assign (V := fun t => .int (Int.fdiv (low + high) 2) t) (by k_extra "e") (by kernel_rfl) (by exact rfl) ?_
    refine Wb.iff (by k_extra "t") (fun h => ?_) (fun h => ?_)
    · have h' := of_decide_eq_true h
      exact Wb.assign (V := fun t => .int (Int.fdiv (low + high) 2 + 1) t) (by k_extra "e") (by kernel_rfl) (by exact rfl) (Wb.nil (Wb.locs' (mm' := [(Str.ofString "low", fun t => .int (Int.fdiv (low + high) 2 + 1) t), (Str.ofString "high", fun t => .int high t), (Str.ofString "heap", fun _ => .ref (A.a 5)), (Str.ofString "word", fun t => .int (18 + 3 * (i : Int)) t)]) (by k_extra "loc") (Wb.nil ⟨_, by omega, rfl, _, _, rfl, by omega, by omega, by omega, by omega, rfl⟩)))
    · have h' := of_decide_eq_false h
      exact Wb.assign (V := fun t => .int (Int.fdiv (low + high) 2) t) (by k_extra "e") (by kernel_rfl) (by exact rfl) (Wb.nil (Wb.locs' (mm' := [(Str.ofString "low", fun t => .int low t), (Str.ofString "high", fun t => .int (Int.fdiv (low + high) 2) t), (Str.ofString "heap", fun _ => .ref (A.a 5)), (Str.ofString "word", fun t => .int (18 + 3 * (i : Int)) t)]) (by k_extra "loc") (Wb.nil ⟨_, by omega, rfl, _, _, rfl, by omega, by omega, by omega, by omega, rfl⟩)))
  · intro hb
    have hlt := of_decide_eq_false hb
    obtain rfl : low = i + 1 := by omega
    have c1 := hW.things i r hr
    have c2 := c1.rec_.inst.1
    have c3 := c1.rec_.dict.1
    obtain ⟨t3, c4⟩ := c1.gaddr
    obtain ⟨t4, c7⟩ := c1.gsize
    have c5 := thv_at hr
    have c6 : ((i : Int) + 1 - 1).toNat = i := by omega
    rw [← c6] at c5
    k_extra "w"


inductive Plc (A : Ad) (S : St) (news : List (Addr × Obj)) (t2 q : Addr) : Prop
  | heap (i : Nat) (r : TR) (e : Addr) (t u : Tok) (h1 : Fz A news t2 (tp [.int 3 t, .int (18 + 3 * (i : Int)) u, .ref e])) (h2 : Fz A news e te) (h3 : S.tl[i]? = some r) (h4 : r.vs = [.ref q])
  | stat (own : Int) (c e : Addr) (cn : Nat) (v : Value) (t u x : Tok) (h1 : Fz A news t2 (tp [.int 4 t, .int own u, .int 1 x, .ref e])) (h2 : Fz A news e te) (h3 : valueAt S.sk own = some (.ref c)) (h4 : Fz A news c (listOf [v, Value.ref q].toArray cn))
  | deep (own : Int) (c e s0 u0 s1 u1 : Addr) (cn : Nat) (v v' : Value) (t u x y1 y2 z1 z2 z3 z4 : Tok) (h1 : Fz A news t2 (tp [.int 4 t, .int own u, .int 0 x, .ref e])) (h2 : Fz A news e (tp [.int 1 y1, .int 0 y2])) (h3 : valueAt S.sk own = some (.ref c)) (h4 : Fz A news c (listOf [Value.ref s0].toArray cn))
      (h5 : Fz A news s0 (tp [.int 5 z1, .int 50 z2, .ref u0])) (h6 : Fz A news u0 (tp [v, .ref s1])) (h7 : Fz A news s1 (tp [.int 5 z3, .int 51 z4, .ref u1])) (h8 : Fz A news u1 (tp [.ref q, v']))
inductive PathAt (news : Led) (t2 e : Addr) : Prop
  | heap (t : Tok) (u : Value) (h : (t2, tp [.int 3 t, u, .ref e]) ∈ news)
  | stat (t : Tok) (u x : Value) (h : (t2, tp [.int 4 t, u, x, .ref e]) ∈ news)
theorem c_path_of (w : World) (t2 e : Addr) : CP w 1 875 [.ref t2] (fun news => PathAt news t2 e) (fun _ => .ref e) := by
  refine cc_of [(Str.ofString "place", .ref t2)] (by k_is) (by k_is) (by kernel_rfl) (by k_extra "isb") (by kernel_rfl) (by kernel_rfl) (by kernel_rfl) (by kernel_rfl) (by kernel_rfl) ?_
  intro cx news kz hp hk
  cases hp with
  | heap t u h =>
    k_extra "w"
  | stat t u x h => k_extra "w"
theorem c_slot_at (w : World) (a dx sl : Addr) (es : List DictEntry) (n cn : Nat) (v : Value) (x y : Int) (t u : Tok) : CP w 1 840 [.ref a, .int x t] (fun news => (a, instObj 794 dx) ∈ news ∧ (dx, dictOf es n) ∈ news ∧ getL (Str.ofString "addr") es = some (some (.int y u)) ∧ getL (Str.ofString "slots") es = some (some (.ref sl)) ∧ (sl, listOf [v].toArray cn) ∈ news ∧ x = y + 2) (fun t => .int 0 t) := by
  refine cc_of [(Str.ofString "word", .int x t), (Str.ofString "thing", .ref a)] (by k_is) (by k_is) (by kernel_rfl) (by k_extra "isb") (by kernel_rfl) (by kernel_rfl) (by kernel_rfl) (by kernel_rfl) (by kernel_rfl) ?_
  intro cx news kz hp hk
  obtain ⟨h1, h2, h3, h4, h5, h6⟩ := hp
  have h7 : (([v].length : Nat) : Int) = 1 := rfl
  k_extra "w"
theorem c_read_slot (w : World) (A : Ad) (S : St) (i : Nat) (r : TR) (q : Addr) (t : Tok) : CP w 3 847 [.ref (A.a 5), .int (18 + 3 * (i : Int)) t] (fun news => Wd w A S news ∧ S.tl[i]? = some r ∧ r.vs = [.ref q] ∧ S.tl.length ≤ 10000) (fun _ => .ref q) := by
  refine cc_of [(Str.ofString "word", .int (18 + 3 * (i : Int)) t), (Str.ofString "heap", .ref (A.a 5))] (by k_is) (by k_is) (by kernel_rfl) (by k_extra "isb") (by kernel_rfl) (by kernel_rfl) (by kernel_rfl) (by kernel_rfl) (by kernel_rfl) ?_
  intro cx news kz hp hk
  obtain ⟨hW, hr, hv, hz⟩ := hp
  have c1 := hW.things i r hr
  have c2 := c1.rec_.inst.1
  have c3 := c1.rec_.dict.1
  have c8 := c1.rec_.slots.1
  rw [hv] at c8
  have c9 := c1.rec_.gslots
  obtain ⟨t3, c4⟩ := c1.gaddr
  have h6 : 18 + 3 * (i : Int) = 16 + 3 * i + 2 := by omega
  k_with "cc" => first | exact c_find_thing _ A S i r _ | exact c_slot_at w r.a r.d r.sl r.es r.n r.c (.ref q) (18 + 3 * (i : Int)) (16 + 3 * (i : Int)) _ t3 | fail
  k_with "pre" => first | exact ⟨hW, hr, hz⟩ | exact ⟨c2, c3, c4, c9, c8, h6⟩ | fail
  k_extra "w"
theorem c_index_of (w : World) (t2 : Addr) (e x t: Tok) (j : Int) (u l : Value) : CP w 1 889 [.ref t2] (fun news => (t2, tp [.int 4 t, u, .int j x, l]) ∈ news) (fun t => .int j t) := by
  refine cc_of [(Str.ofString "place", .ref t2)] (by k_is) (by k_is) (by kernel_rfl) (by k_extra "isb") (by kernel_rfl) (by kernel_rfl) (by kernel_rfl) (by kernel_rfl) (by kernel_rfl) ?_
  intro cx news kz hp hk
  k_extra "w"
theorem c_slots_of (w : World) (A : Ad) (S : St) (t2 c' e : Addr) (t u : Tok) (own : Int) (x l : Value) : CP w 1 882 [.ref (A.a 12), .ref t2] (fun news => Wd w A S news ∧ (t2, tp [.int 4 t, .int own u, x, l]) ∈ news ∧ valueAt S.sk own = some (.ref c')) (fun _ => .ref c') := by
  refine cc_of [(Str.ofString "place", .ref t2), (Str.ofString "ph", .ref (A.a 12))] (by k_is) (by k_is) (by kernel_rfl) (by k_extra "isb") (by kernel_rfl) (by kernel_rfl) (by kernel_rfl) (by kernel_rfl) (by kernel_rfl) ?_
  intro cx news kz hp hk
  obtain ⟨hW, h1, h2⟩ := hp
  have a2 := hW.p_statics
  have a3 := hW.sta
  have a4 := hW.lo11
  k_extra "w"
inductive PathTo (news : Led) (q' q e : Addr) : Prop
  | nil (h : (e, te) ∈ news) (h1 : q' = q)
  | deep (s1 u0 u1 : Addr) (v v' : Value) (y1 y2 z1 z2 z3 z4 : Tok) (h2 : (e, tp [.int 1 y1, .int 0 y2]) ∈ news)
      (h5 : (q', tp [.int 5 z1, .int 50 z2, .ref u0]) ∈ news) (h6 : (u0, tp [v, .ref s1]) ∈ news) (h7 : (s1, tp [.int 5 z3, .int 51 z4, .ref u1]) ∈ news) (h8 : (u1, tp [.ref q, v']) ∈ news)
theorem c_get_path (w : World) (q' q e : Addr) : CP w 1 344 [.ref q', .ref e] (fun news => PathTo news q' q e) (fun _ => .ref q) := by
  refine cc_of [(Str.ofString "path", .ref e), (Str.ofString "value", .ref q')] (by k_is) (by k_is) (by kernel_rfl) (by k_extra "isb") (by kernel_rfl) (by kernel_rfl) (by kernel_rfl) (by kernel_rfl) (by kernel_rfl) ?_
  intro cx news kz hp hk
  cases hp with
  | nil h h1 =>
    subst h1
    k_extra "w"
  | deep s1 u0 u1 v v' y1 y2 z1 z2 z3 z4 h2 h5 h6 h7 h8 =>
    k_extra "w"
inductive WholeAt (A : Ad) (S : St) (news : Led) (t2 q' : Addr) : Prop
  | heap (i : Nat) (r : TR) (t u : Tok) (e : Value) (h1 : (t2, tp [.int 3 t, .int (18 + 3 * (i : Int)) u, e]) ∈ news) (h3 : S.tl[i]? = some r) (h4 : r.vs = [.ref q'])
  | stat (own j : Int) (c' : Addr) (cn : Nat) (l : List Value) (t u x : Tok) (e : Value) (h1 : (t2, tp [.int 4 t, .int own u, .int j x, e]) ∈ news) (h3 : valueAt S.sk own = some (.ref c')) (h4 : (c', listOf l.toArray cn) ∈ news)
      (h5 : (0 ≤ j ∧ j < l.length) ∧ l.length ≤ 2) (h6 : l[j.toNat]? = some (.ref q'))
theorem c_read_whole (w : World) (A : Ad) (S : St) (t2 q' : Addr) : CP w 5 896 [.ref (A.a 12), .ref t2] (fun news => Wd w A S news ∧ S.tl.length ≤ 10000 ∧ WholeAt A S news t2 q') (fun _ => .ref q') := by
  refine cc_of [(Str.ofString "place", .ref t2), (Str.ofString "ph", .ref (A.a 12))] (by k_is) (by k_is) (by kernel_rfl) (by k_extra "isb") (by kernel_rfl) (by kernel_rfl) (by kernel_rfl) (by kernel_rfl) (by kernel_rfl) ?_
  intro cx news kz hp hk
  obtain ⟨hW, hz, hP⟩ := hp
  cases hP with
  | heap i r t u e h1 h3 h4 =>
    have a1 := hW.p_heap
    k_with "cc" => first | exact c_read_slot w A S i r q' _ | fail
    k_with "pre" => first | exact ⟨hW, h3, h4, hz⟩ | fail
    k_extra "w"
  | stat own j c' cn l t u x e h1 h3 h4 h5 h6 =>
    k_with "cc" => first | exact c_slots_of w A S t2 c' c' t u own (.int j x) e | exact c_index_of w t2 t x t j (.int own u) e | fail
    k_with "pre" => first | exact ⟨hW, h1, h3⟩ | exact h1 | fail
    k_extra "w"
theorem c_read_place (w : World) (A : Ad) (S : St) (t2 q : Addr) : CP w 6 903 [.ref (A.a 12), .ref t2]
    (fun news => Wd w A S news ∧ Plc A S news t2 q ∧ S.tl.length ≤ 10000) (fun _ => .ref q) := by
  refine cc_of [(Str.ofString "place", .ref t2), (Str.ofString "ph", .ref (A.a 12))] (by k_is) (by k_is) (by kernel_rfl) (by k_extra "isb") (by kernel_rfl) (by kernel_rfl) (by kernel_rfl) (by kernel_rfl) (by kernel_rfl) ?_
  intro c news k hp hk
  obtain ⟨hW, hP, hz⟩ := hp
  have key : ∃ q' e, WholeAt A S news t2 q' ∧ PathAt news t2 e ∧ PathTo news q' q e := by
    cases hP with
    | heap i r e t u h1 h2 h3 h4 => exact ⟨q, e, .heap i r t u (.ref e) h1.1 h3 h4, .heap _ _ h1.1, .nil h2.1 rfl⟩
    | stat own c' e cn v t u x h1 h2 h3 h4 => exact ⟨q, e, .stat own 1 c' cn [v, .ref q] t u x (.ref e) h1.1 h3 h4.1 (by simp) rfl, .stat _ _ _ h1.1, .nil h2.1 rfl⟩
    | deep own c' e s0 u0 s1 u1 cn v v' t u x y1 y2 z1 z2 z3 z4 h1 h2 h3 h4 h5 h6 h7 h8 =>
      exact ⟨s0, e, .stat own 0 c' cn [.ref s0] t u x (.ref e) h1.1 h3 h4.1 (by simp) rfl, .stat _ _ _ h1.1, .deep s1 u0 u1 v v' y1 y2 z1 z2 z3 z4 h2.1 h5.1 h6.1 h7.1 h8.1⟩
  obtain ⟨q', e, k1, k2, k3⟩ := key
  k_with "cc" => first | exact c_read_whole w A S t2 q' | exact c_get_path w q' q e | fail
  k_with "pre" => first | exact ⟨hW, hz, k1⟩ | exact k3 | fail
  k_with "cc" => first | exact c_path_of w t2 e | fail
  k_with "pre" => first | exact k2 | fail
  k_extra "w"


theorem new_item_end {w : World} {A : Ad} {S : St} {news news1 : List (Addr × Obj)} {x d sl : Addr} {es : List DictEntry} {n c n' : Nat} {vs : List Value} {k : Int} {t : Tok} (hW : Wd w A S news) (l1 : ∀ p ∈ news, p.1 < d) (l2 : d < x) (hs : Fz A news sl (listOf vs.toArray c)) (hv : vs.length ≤ 1)
    (hk : getL (Str.ofString "kind") es = some (some (.int k t))) (hsl : getL (Str.ofString "slots") es = some (some (.ref sl))) (sub : ∀ p ∈ (x, instObj 361 d) :: (d, dictOf es n) :: news, p ∈ news1) :
    Wd w A { S with il := S.il ++ [⟨x, d, es, n, k, sl, vs, c⟩], itn := n' } (foc (A.a 16) (listOf (Value.none :: thv S.il ++ [Value.ref x]).toArray n') news1) ∧ Ext A news (foc (A.a 16) (listOf (Value.none :: thv S.il ++ [Value.ref x]).toArray n') news1) :=
  have s0 : ∀ p ∈ news, p ∈ news1 := fun p hp => sub p (List.mem_cons_of_mem _ (List.mem_cons_of_mem _ hp))
  have r : RecIn A 361 news1 ⟨x, d, es, n, k, sl, vs, c⟩ := ⟨⟨sub _ (.head _), hW.nt2 l1 l2⟩, ⟨sub _ (List.mem_cons_of_mem _ (.head _)), hW.nt l1⟩, ⟨s0 _ hs.1, hs.2⟩, ⟨t, hk⟩, hsl, hv⟩
  have a := (hW.keep s0).addItem r (n' := n') rfl
  ⟨a.1, fun p hp hn => a.2 p (s0 p hp) hn⟩
theorem c_item (w : World) (number k : Int) (sl : Addr) (t u : Tok) : CC w (0 + 2) 361 [.int number t, .int k u, .ref sl] (fun _ => True) (fun news kk => ∀ (x d : Addr) es n u1 news', (∀ p ∈ news, p ∈ news') → (∀ p ∈ news, @LT.lt Nat _ p.1 d) → @LT.lt Nat _ d x → (x, instObj 361 d) ∈ news' → (d, dictOf es n) ∈ news' → getL (Str.ofString "kind") es = some (some (.int k u1)) → getL (Str.ofString "slots") es = some (some (.ref sl)) → getL (Str.ofString "text") es = some (some .none) → es.length ≤ 1000 → kk (.ref x) news') := by
  refine cc_cls (fun x => [(Str.ofString "slots", .ref sl), (Str.ofString "kind", .int k u), (Str.ofString "number", .int number t), (Str.ofString "self", .ref x)]) (by k_is) (by k_is) (by k_is) (by k_is) (by k_is) (by intro _; kernel_rfl) (by intro _; k_extra "isb") (by intro _; kernel_rfl) (by kernel_rfl) (by kernel_rfl) (by kernel_rfl) (by kernel_rfl) ?_
  intro cx news kz x dx hp hk lx ly
  have qC : ClsOk (KF w.params) 361 := ⟨by k_is, by k_is, by k_is⟩
  k_extra "wi"
  intro n' B
  obtain ⟨es, en, B1, B2, -⟩ := B.ex
  obtain ⟨_, g1⟩ := B2 (Str.ofString "kind") _ rfl
  obtain ⟨_, g2⟩ := B2 (Str.ofString "slots") _ rfl
  obtain ⟨_, g3⟩ := B2 (Str.ofString "text") _ rfl
  exact hk x dx es en _ n' B1.sub B1.lt B1.dx B1.inst B1.dict g1 g2 g3 (Nat.le_trans B1.len (Nat.le_of_ble_eq_true rfl))
theorem c_new_raw (w : World) (A : Ad) (S : St) (k : Int) (sl : Addr) (t : Tok) : CC w 3 554 [.ref (A.a 14), .int k t, .ref sl] (fun news => Wd w A S news ∧ S.il.length ≤ 10000) (fun news k' => ∀ t u1 (x d : Addr) es n n' n1, (∀ p ∈ news, p ∈ n1) → (∀ p ∈ news, @LT.lt Nat _ p.1 d) → @LT.lt Nat _ d x → (x, instObj 361 d) ∈ n1 → (d, dictOf es n) ∈ n1 → getL (Str.ofString "kind") es = some (some (.int k u1)) → getL (Str.ofString "slots") es = some (some (.ref sl)) → getL (Str.ofString "text") es = some (some .none) → es.length ≤ 1000 → k' (.int (S.il.length + 1 : Nat) t) (foc (A.a 16) (listOf (Value.none :: thv S.il ++ [Value.ref x]).toArray n') n1)) := by
  refine cc_of [(Str.ofString "slots", .ref sl), (Str.ofString "kind", .int k t), (Str.ofString "ev", .ref (A.a 14))] (by k_is) (by k_is) (by kernel_rfl) (by k_extra "isb") (by kernel_rfl) (by kernel_rfl) (by kernel_rfl) (by kernel_rfl) (by kernel_rfl) ?_
  intro cx news kz hp hk
  obtain ⟨hW, hz⟩ := hp
  have a1 := hW.e_things
  have a2 := @thv_len S.il
  refine Wb.assign (by k_extra "e") (by kernel_rfl) (by exact rfl) ?_
  refine Wb.expr (Go.appendG (by k_extra "e") (hW.mem 16 _ rfl) (by exact rfl) (Go.callT (by kernel_rfl) (by k_is) (by k_is) (by k_extra "es") (fun τ => c_item w _ k sl (τ 0) (τ 1)) (by kernel_rfl) (by decide) (fun _ => trivial) (fun _ => by k_extra "mono") ?_) (by kernel_rfl)) (by exact rfl) (by exact rfl)
  intro τ x d es n u1 n1 s l1 l2 m1 m2 g1 g2 g3 z
  refine ⟨_, _, s _ (hW.mem 16 _ rfl), by rw [List.length_cons, a2, sizeLine_eq]; omega, trivial, ?_⟩
  refine Wb.ret (by k_extra "e") fun t => ?_
  have q := hk t u1 x d es n (S.itn + 1) n1 s l1 l2 m1 m2 g1 g2 g3 z
  rw [← a2] at q
  exact q
theorem CC.imp {w : World} {d : Nat} {f : Addr} {vs : List Value} {pre pre' : List (Addr × Obj) → Prop} {T T' : List (Addr × Obj) → (Value → List (Addr × Obj) → Prop) → Prop} (C : CC w d f vs pre T) (m : ∀ news, pre' news → pre news) (m2 : ∀ news k, pre' news → T' news k → T news k) : CC w d f vs pre' T' :=
  ⟨fun _ _ _ _ _ _ _ _ _ _ _ _ _ _ _ _ _ _ _ _ _ _ _ B F X N T hk hp hd hu ret => C.run _ _ _ _ _ _ _ _ _ _ _ _ _ _ _ _ _ _ _ _ _ _ _ B F X N T hk (m _ hp) hd hu (m2 _ _ hp ret)⟩
theorem c_new_item (w : World) (A : Ad) (S : St) (k : Int) (sl : Addr) (vs : List Value) (c : Nat) (t : Tok) : CC w 3 554 [.ref (A.a 14), .int k t, .ref sl]
    (fun news => Wd w A S news ∧ Fz A news sl (listOf vs.toArray c) ∧ vs.length ≤ 1 ∧ S.il.length ≤ 10000)
    (fun news k' => ∀ t x d es n n' news', Wd w A { S with il := S.il ++ [⟨x, d, es, n, k, sl, vs, c⟩], itn := n' } news' → Ext A news news' → Fz A news' x (instObj 361 d) → Fz A news' d (dictOf es n) → getL (Str.ofString "slots") es = some (some (.ref sl)) → k' (.int (S.il.length + 1 : Nat) t) news') :=
  (c_new_raw w A S k sl t).imp (fun _ h => ⟨h.1, h.2.2.2⟩) fun news k' ⟨hW, hs, hv, _⟩ r t u1 x d es n n' n1 s l1 l2 m1 m2 g1 g2 _ _ => by
    have q := new_item_end (n' := n') hW l1 l2 hs hv g1 g2 (fun p hp => by
      rcases List.mem_cons.mp hp with rfl | hp
      · exact m1
      rcases List.mem_cons.mp hp with rfl | hp
      · exact m2
      · exact s _ hp : ∀ p ∈ (x, instObj 361 d) :: (d, dictOf es n) :: news, p ∈ n1)
    exact r t x d es n n' _ q.1 q.2 ⟨.tail _ (mem_foc m1 (hW.nt2 l1 l2 16 (by decide))), hW.nt2 l1 l2⟩ ⟨.tail _ (mem_foc m2 (hW.nt l1 16 (by decide))), hW.nt l1⟩ g2


noncomputable def NA (A : Ad) (x : Addr) : Prop := ∀ j, j < 20 → x ≠ A.a j
theorem NA.at {A : Ad} {x : Addr} {j : Nat} (h : NA A x) (hj : j < 20) : x ≠ A.a j := h j hj
theorem NA.nt {A : Ad} {x : Addr} (h : NA A x) : NT A x := fun j hj => h j (by
  simp only [List.mem_cons, List.not_mem_nil, or_false] at hj
  omega)
theorem tab_some {A : Ad} {S : St} {j : Nat} (h : j < 20) : ∃ o, tab A S j = some o :=
  match j, h with
  | 0, _ | 1, _ | 2, _ | 3, _ | 4, _ | 5, _ | 6, _ | 7, _ | 8, _ | 9, _ | 10, _ | 11, _ | 12, _ | 13, _ | 14, _ | 15, _ | 16, _ | 17, _ | 18, _ | 19, _ => ⟨_, rfl⟩
  | n + 20, h => absurd h (Nat.not_lt.mpr (Nat.le_add_left 20 n))
theorem Wd.na {w : World} {A : Ad} {S : St} {news : List (Addr × Obj)} (h : Wd w A S news) {x : Addr} (hx : ∀ p ∈ news, p.1 < x) : NA A x := fun j hj e => by
  obtain ⟨o, ho⟩ := tab_some (A := A) (S := S) hj
  have := hx _ (h.mem j o ho)
  dsimp only at this
  rw [e] at this
  exact absurd this (Nat.lt_irrefl _)
theorem c_thing (w : World) (ad k : Int) (sl : Addr) (vs : List Value) (c : Nat) (t u : Tok) : CC w (1 + 2) 794 [.int ad t, .int k u, .ref sl] (fun news => (sl, listOf vs.toArray c) ∈ news ∧ vs.length ≤ 1) (fun news kk => ∀ (x d : Addr) es n t1 t2 t3 v news', (∀ p ∈ news, p ∈ news') → (∀ p ∈ news, @LT.lt Nat _ p.1 d) → @LT.lt Nat _ d x → (x, instObj 794 d) ∈ news' → (d, dictOf es n) ∈ news' → getL (Str.ofString "addr") es = some (some (.int ad t1)) → getL (Str.ofString "kind") es = some (some (.int k t2)) → getL (Str.ofString "slots") es = some (some (.ref sl)) → getL (Str.ofString "size") es = some (some (.int 3 t3)) → getL (Str.ofString "serial") es = some (some v) → es.length ≤ 1000 → kk (.ref x) news') := by
  refine cc_cls (fun x => [(Str.ofString "slots", .ref sl), (Str.ofString "kind", .int k u), (Str.ofString "addr", .int ad t), (Str.ofString "self", .ref x)]) (by k_is) (by k_is) (by k_is) (by k_is) (by k_is) (by intro _; kernel_rfl) (by intro _; k_extra "isb") (by intro _; kernel_rfl) (by kernel_rfl) (by kernel_rfl) (by kernel_rfl) (by kernel_rfl) ?_
  intro cx news kz x dx hp hk lx ly
  have qC : ClsOk (KF w.params) 794 := ⟨by k_is, by k_is, by k_is⟩
  obtain ⟨h1, h2⟩ := hp
  k_with "cc" => first | exact c_words_for w vs.length _ | fail
  k_with "pre" => first | exact ⟨by omega, by omega⟩ | fail
  k_extra "wi"
  intro n' B
  obtain ⟨es, en, B1, B2, -⟩ := B.ex
  obtain ⟨_, g1⟩ := B2 (Str.ofString "addr") _ rfl
  obtain ⟨_, g2⟩ := B2 (Str.ofString "kind") _ rfl
  obtain ⟨_, g3⟩ := B2 (Str.ofString "slots") _ rfl
  obtain ⟨_, g4⟩ := B2 (Str.ofString "size") _ rfl
  obtain ⟨_, g5⟩ := B2 (Str.ofString "serial") _ rfl
  exact hk x dx es en _ _ _ _ n' B1.sub B1.lt B1.dx B1.inst B1.dict g1 g2 g3 g4 g5 (Nat.le_trans B1.len (Nat.le_of_ble_eq_true rfl))
theorem uroomM1 {dp k d R : Nat} (h : dp + 8 * k < R) (e : d + 1 ≤ k) : dp + 1 + 3 + 8 * d < R := by omega
theorem uroomM2 {dp k d R : Nat} (h : dp + 8 * k < R) (e : d + 2 ≤ k) : dp + 3 + 1 + 3 + 8 * d < R := by omega
theorem getL_step {name y : Str} {es es' : List DictEntry} {v : Option (Option Value)} (h : ∀ y, y ≠ name → getL y es' = getL y es) (n : y ≠ name) (r : getL y es = v) : getL y es' = v := (h y n).trans r
theorem len_step {es es' : List DictEntry} {k : Nat} (h : es'.length = es.length) (r : es.length ≤ k) : es'.length ≤ k := h ▸ r


theorem hkv_acc : ∀ (l : List TR) (acc : List (Int × Value)), (hkv l acc).length = acc.length + l.length
  | [], acc => by simp [hkv]
  | r :: l, acc => by
    unfold hkv
    rw [hkv_acc l]
    simp only [List.length_append, List.length_cons, List.length_nil]
    omega
theorem hkv_append (r : TR) : ∀ (l : List TR) (acc : List (Int × Value)), hkv (l ++ [r]) acc = hkv l acc ++ [(((16 + 3 * (acc.length + l.length) : Nat) : Int), Value.ref r.a)]
  | [], acc => by simp [hkv]
  | x :: l, acc => by
    show hkv (l ++ [r]) _ = hkv l _ ++ _
    rw [hkv_append r l]
    congr 3
    simp only [List.length_append, List.length_cons, List.length_nil]
    omega
theorem hkv_lt : ∀ (l : List TR) (acc : List (Int × Value)), (∀ p ∈ acc, p.1 < 16 + 3 * acc.length) → ∀ p ∈ hkv l acc, p.1 < 16 + 3 * ((acc.length + l.length : Nat) : Int)
  | [], acc, ha => fun p hp => by
    have := ha p hp
    simp only [List.length_nil]
    omega
  | x :: l, acc, ha => fun p hp => by
    have := hkv_lt l (acc ++ [(((16 + 3 * acc.length : Nat) : Int), Value.ref x.a)]) (fun q hq => by
      rcases List.mem_append.mp hq with hq | hq
      · have := ha q hq
        simp only [List.length_append, List.length_cons, List.length_nil]
        omega
      · rcases List.mem_singleton.mp hq with rfl
        simp only [List.length_append, List.length_cons, List.length_nil]
        omega) p hp
    simp only [List.length_append, List.length_cons, List.length_nil] at this ⊢
    omega
theorem hkv_stored (l : List TR) (r : TR) : stored (hkv l []) (16 + 3 * ((l.length : Nat) : Int)) (.ref r.a) = hkv (l ++ [r]) [] := by
  rw [hkv_append]
  unfold stored
  rw [if_neg]
  · congr 3
    simp only [List.length_nil]
    omega
  · intro h
    obtain ⟨p, hp, he⟩ := List.any_eq_true.mp h
    have := hkv_lt l [] (fun _ h => nomatch h) p hp
    simp only [decide_eq_true_eq] at he
    simp only [List.length_nil] at this
    omega
theorem Wd.nti {w : World} {A : Ad} {S : St} {news : List (Addr × Obj)} (h : Wd w A S news) {i : Nat} (hi : i < 20) (hn : i ∉ [6, 7, 8, 11, 16, 19]) : NT A (A.a i) := fun j hj e => by
  have hj' : j < 20 := by
    simp only [List.mem_cons, List.not_mem_nil, or_false] at hj
    omega
  exact hn (h.inj i j hi hj' e ▸ hj)
theorem Ext.focNew {A : Ad} {n1 n2 : List (Addr × Obj)} {d : Addr} {o : Obj} (h : Ext A n1 n2) (hd : ∀ p ∈ n1, p.1 ≠ d) : Ext A n1 (Hd.foc d o n2) := fun q hq hn => List.mem_cons_of_mem _ (mem_foc (h q hq hn) (hd q hq))
theorem alloc_end {w : World} {A : Ad} {S : St} {news L' : List (Addr × Obj)} (hW : Wd w A S news) (r : TR) {hes' : List DictEntry} {thn' : Nat} {hat' : Obj} {t1 t2 t3 : Tok} (e : Ext A news L')
    (m6 : (A.a 6, dictOf hes' (A.n 6)) ∈ L') (m7 : (A.a 7, listOf (thv S.tl ++ [Value.ref r.a]).toArray thn') ∈ L') (m8 : (A.a 8, hat') ∈ L') (m11 : (A.a 11, S.st) ∈ L') (m16 : (A.a 16, listOf (Value.none :: thv S.il).toArray S.itn) ∈ L') (m19 : (A.a 19, listOf S.kept.toArray S.kn) ∈ L')
    (th : ThIn A L' S.tl.length r) (g1 : getL (Str.ofString "things") hes' = some (some (.ref (A.a 7)))) (g2 : getL (Str.ofString "at") hes' = some (some (.ref (A.a 8))))
    (g3 : getL (Str.ofString "top") hes' = some (some (.int (16 + 3 * ((S.tl.length : Nat) : Int) + 3) t1))) (g4 : getL (Str.ofString "made") hes' = some (some (.int (((S.tl.length : Nat) : Int) + 1) t2))) (g5 : getL (Str.ofString "fresh") hes' = some (some (.int (3 * ((S.tl.length : Nat) : Int) + 3) t3)))
    (hl : hes'.length ≤ 1000) (hd : hat'.IsDictOf (intKind pg w) (stored (hkv S.tl []) (16 + 3 * ((S.tl.length : Nat) : Int)) (.ref r.a))) :
    Wd w A { S with tl := S.tl ++ [r], hes := hes', thn := thn', hat := hat' } L' :=
  have l1 : (((S.tl ++ [r]).length : Nat) : Int) = ((S.tl.length : Nat) : Int) + 1 := by
    rw [List.length_append]
    rfl
  { hW with
    mem := fun i o ho => by
      by_cases hi : i ∈ [6, 7, 8, 11, 16, 19]
      · simp only [List.mem_cons, List.not_mem_nil, or_false] at hi
        rcases hi with rfl | rfl | rfl | rfl | rfl | rfl <;> cases ho
        · exact m6
        · simpa [thv] using m7
        · exact m8
        · exact m11
        · exact m16
        · exact m19
      · have hlt := tab_lt ho
        exact e _ (hW.mem i o ((tab_fix i hi).symm.trans ho)) (hW.nti hlt hi)
    h_things := g1
    h_at := g2
    h_top := ⟨t1, by rw [g3]; simp only [l1]; congr 3 <;> omega⟩
    h_made := ⟨t2, by rw [g4]; simp only [l1]⟩
    h_fresh := ⟨t3, by rw [g5]; simp only [l1]; congr 3 <;> omega⟩
    h_len := hl
    rows := fun i hi => by obtain ⟨r, t, u, h1, h2⟩ := hW.rows i hi; exact ⟨r, t, u, h1, h2.ext e⟩
    cores := fun i hi => by obtain ⟨y, d, es, n, t, h1, h2, h3, h4⟩ := hW.cores i hi; exact ⟨y, d, es, n, t, h1, h2.ext e, h3.ext e, h4⟩
    hat := by rw [hkv_stored] at hd; exact hd
    things := fun i q hq => by
      by_cases hi : i < S.tl.length
      · rw [List.getElem?_append_left hi] at hq
        exact (hW.things i q hq).ext e
      · rw [List.getElem?_append_right (by omega)] at hq
        cases e0 : i - S.tl.length with
        | zero =>
          rw [e0] at hq
          have hq' : r = q := Option.some.inj hq
          subst hq'
          have : i = S.tl.length := by omega
          subst this
          exact th
        | succ k => rw [e0] at hq; cases hq
    items := fun i q hq => (hW.items i q hq).ext e
    kepts := fun v hv => (hW.kepts v hv).ext e }
structure AJ (w : World) (A : Ad) (S : St) (news : Led) (x d : Addr) (hes es : List DictEntry) (n : Nat) (l7 : List Value) (t7 : Nat) (o8 : Obj) (n' : Led) : Prop where
  ext : Ext A news n'
  m6 : (A.a 6, dictOf hes (A.n 6)) ∈ n'
  m7 : (A.a 7, listOf l7.toArray t7) ∈ n'
  m8 : (A.a 8, o8) ∈ n'
  m11 : (A.a 11, S.st) ∈ n'
  m16 : (A.a 16, listOf (Value.none :: thv S.il).toArray S.itn) ∈ n'
  m19 : (A.a 19, listOf S.kept.toArray S.kn) ∈ n'
  mx : (x, instObj 794 d) ∈ n'
  md : (d, dictOf es n) ∈ n'
section
variable {w : World} {A : Ad} {S : St} {news n' : Led} {x d : Addr} {hes es : List DictEntry} {n : Nat} {l7 : List Value} {t7 : Nat} {o8 : Obj}
theorem AJ.f6 (J : AJ w A S news x d hes es n l7 t7 o8 n') (hW : Wd w A S news) (nx : NA A x) (nd : NA A d) (hes' : List DictEntry) : AJ w A S news x d hes' es n l7 t7 o8 (foc (A.a 6) (dictOf hes' (A.n 6)) n') :=
  have q : ∀ i, i < 20 → i ≠ 6 → A.a i ≠ A.a 6 := fun i h g => hW.ne h (by decide) g
  ⟨Ext.foc J.ext (by decide), .head _, .tail _ (mem_foc J.m7 (q 7 (by decide) (by decide))), .tail _ (mem_foc J.m8 (q 8 (by decide) (by decide))), .tail _ (mem_foc J.m11 (q 11 (by decide) (by decide))), .tail _ (mem_foc J.m16 (q 16 (by decide) (by decide))), .tail _ (mem_foc J.m19 (q 19 (by decide) (by decide))), .tail _ (mem_foc J.mx (nx.at (by decide))), .tail _ (mem_foc J.md (nd.at (by decide)))⟩
theorem AJ.f7 (J : AJ w A S news x d hes es n l7 t7 o8 n') (hW : Wd w A S news) (nx : NA A x) (nd : NA A d) (l : List Value) (t : Nat) : AJ w A S news x d hes es n l t o8 (foc (A.a 7) (listOf l.toArray t) n') :=
  have q : ∀ i, i < 20 → i ≠ 7 → A.a i ≠ A.a 7 := fun i h g => hW.ne h (by decide) g
  ⟨Ext.foc J.ext (by decide), .tail _ (mem_foc J.m6 (q 6 (by decide) (by decide))), .head _, .tail _ (mem_foc J.m8 (q 8 (by decide) (by decide))), .tail _ (mem_foc J.m11 (q 11 (by decide) (by decide))), .tail _ (mem_foc J.m16 (q 16 (by decide) (by decide))), .tail _ (mem_foc J.m19 (q 19 (by decide) (by decide))), .tail _ (mem_foc J.mx (nx.at (by decide))), .tail _ (mem_foc J.md (nd.at (by decide)))⟩
theorem AJ.f8 (J : AJ w A S news x d hes es n l7 t7 o8 n') (hW : Wd w A S news) (nx : NA A x) (nd : NA A d) (o : Obj) : AJ w A S news x d hes es n l7 t7 o (foc (A.a 8) o n') :=
  have q : ∀ i, i < 20 → i ≠ 8 → A.a i ≠ A.a 8 := fun i h g => hW.ne h (by decide) g
  ⟨Ext.foc J.ext (by decide), .tail _ (mem_foc J.m6 (q 6 (by decide) (by decide))), .tail _ (mem_foc J.m7 (q 7 (by decide) (by decide))), .head _, .tail _ (mem_foc J.m11 (q 11 (by decide) (by decide))), .tail _ (mem_foc J.m16 (q 16 (by decide) (by decide))), .tail _ (mem_foc J.m19 (q 19 (by decide) (by decide))), .tail _ (mem_foc J.mx (nx.at (by decide))), .tail _ (mem_foc J.md (nd.at (by decide)))⟩
theorem AJ.fd (J : AJ w A S news x d hes es n l7 t7 o8 n') (nd : NA A d) (hx : x ≠ d) (hn : ∀ p ∈ news, p.1 ≠ d) (es' : List DictEntry) : AJ w A S news x d hes es' n l7 t7 o8 (foc d (dictOf es' n) n') :=
  have q : ∀ i, i < 20 → A.a i ≠ d := fun i h e => nd i h e.symm
  ⟨Ext.focNew J.ext hn, .tail _ (mem_foc J.m6 (q 6 (by decide))), .tail _ (mem_foc J.m7 (q 7 (by decide))), .tail _ (mem_foc J.m8 (q 8 (by decide))), .tail _ (mem_foc J.m11 (q 11 (by decide))), .tail _ (mem_foc J.m16 (q 16 (by decide))), .tail _ (mem_foc J.m19 (q 19 (by decide))), .tail _ (mem_foc J.mx hx), .head _⟩
end
theorem c_heap_alloc (w : World) (A : Ad) (S : St) (k : Int) (sl : Addr) (vs : List Value) (c : Nat) (t : Tok) : CC w 4 826 [.ref (A.a 5), .int k t, .ref sl] (fun news => Wd w A S news ∧ Fz A news sl (listOf vs.toArray c) ∧ vs.length ≤ 1 ∧ S.tl.length ≤ 10000) (fun news k' => ∀ x d es n t1 hes' n' hat' news', Wd w A { S with tl := S.tl ++ [⟨x, d, es, n, k, sl, vs, c⟩], hes := hes', thn := n', hat := hat' } news' → Ext A news news' → Fz A news' x (instObj 794 d) → Fz A news' d (dictOf es n) → getL (Str.ofString "slots") es = some (some (.ref sl)) → getL (Str.ofString "addr") es = some (some (.int (16 + 3 * ((S.tl.length : Nat) : Int)) t1)) → k' (.ref x) news') := by
  refine cc_of [(Str.ofString "slots", .ref sl), (Str.ofString "kind", .int k t), (Str.ofString "heap", .ref (A.a 5))] (by k_is) (by k_is) (by kernel_rfl) (by k_extra "isb") (by kernel_rfl) (by kernel_rfl) (by kernel_rfl) (by kernel_rfl) (by kernel_rfl) ?_
  intro cx news kz hp hk
  obtain ⟨hW, hs, hv, hz⟩ := hp
  obtain ⟨t1, a1⟩ := hW.h_top
  obtain ⟨t2, a2⟩ := hW.h_made
  obtain ⟨t3, a3⟩ := hW.h_fresh
  have a4 := hW.h_things
  have a5 := hW.h_at
  have a6 := hW.h_len
  have a8 : (hkv S.tl []).length ≤ sizeLine := by
    rw [hkv_acc, sizeLine_eq]
    simp only [List.length_nil]
    omega
  have P5 : ∀ nm, takerIn (KF w.params) 815 nm = some none → SetAt w 815 nm := fun nm h => ⟨by k_is, by k_is, h, by k_is⟩
  refine Wb.assignG (Go.callT (by kernel_rfl) (by k_is) (by k_is) (by k_extra "es") (fun τ => c_thing w (16 + 3 * ((S.tl.length : Nat) : Int)) k sl vs c (τ 0) (τ 1)) (by kernel_rfl) (by decide) (fun _ => by exact ⟨hs.1, hv⟩) (fun _ => by k_extra "mono") ?_) (by kernel_rfl) (by exact rfl)
  intro τ x d es n u1 u2 u3 v0 n1 s l1 l2 m1 m2 g1 g2 g3 g4 g5 z
  refine ⟨fun _ => .ref x, ⟨0, rfl⟩, ?_⟩
  have nx : NA A x := hW.na fun p hp => Nat.lt_trans (l1 p hp) l2
  have nd : NA A d := hW.na l1
  have hxd : x ≠ d := Nat.ne_of_gt l2
  have hn : ∀ p ∈ news, p.1 ≠ d := fun p hp => Nat.ne_of_lt (l1 p hp)
  have J0 : AJ w A S news x d S.hes es n (thv S.tl) S.thn S.hat n1 := ⟨fun p hp _ => s p hp, s _ (hW.mem 6 _ rfl), s _ (hW.mem 7 _ rfl), s _ (hW.mem 8 _ rfl), s _ (hW.mem 11 _ rfl), s _ (hW.mem 16 _ rfl), s _ (hW.mem 19 _ rfl), m1, m2⟩
  have F5 : ∀ {n2 : Led}, Ext A news n2 → (A.a 5, instObj 815 (A.a 6)) ∈ n2 := fun e => e _ (hW.mem 5 _ rfl) (hW.nti (by decide) (by decide))
  refine Wb.augAttr (by k_extra "e") (by k_extra "e") (F5 J0.ext) J0.m6 a2 (by k_extra "at") (P5 _ (by k_is)) a6 ?_
  intro t4 hes1 e1 e2 e3
  have J1 := J0.f6 hW nx nd hes1
  refine Wb.setAttr (Ev.attr (by k_extra "e") (F5 J1.ext) J1.m6 e2 ⟨_, rfl⟩ (by k_extra "at") (by kernel_rfl) (by kernel_rfl)) (by k_extra "e") J1.mx J1.md g5 ⟨by k_is, by k_is, by k_is, by k_is⟩ z (by exact rfl) ?_
  intro t5 es1 f1 f2 f3
  have J2 := J1.fd nd hxd hn es1
  refine Wb.expr (Go.appendG (a := A.a 7) (Ev.attr (by k_extra "e") (F5 J2.ext) J2.m6 ((e3 _ (by decide)).trans a4) ⟨0, rfl⟩ (by k_extra "at") (by kernel_rfl) (by kernel_rfl)) J2.m7 (by exact rfl) (Go.ev (V := fun _ => .ref x) (by k_extra "e") fun _ => ⟨_, _, J2.m7, by rw [thv_len, sizeLine_eq]; omega, trivial, ?_⟩) (by kernel_rfl)) (by exact rfl) (by exact rfl)
  have J3 := J2.f7 hW nx nd (thv S.tl ++ [.ref x]) (S.thn + 1)
  refine Wb.setItem (by k_extra "e") (Ev.attr (by k_extra "e") (F5 J3.ext) J3.m6 ((e3 _ (by decide)).trans a5) ⟨0, rfl⟩ (by k_extra "at") (by kernel_rfl) (by kernel_rfl)) (Ev.attr (by k_extra "e") J3.mx J3.md ((f3 _ (by decide)).trans g1) ⟨_, rfl⟩ (by k_extra "at") (by kernel_rfl) (by kernel_rfl)) J3.m8 hW.hat a8 (by exact rfl) ?_
  intro t6 hat' hd'
  have J4 := J3.f8 hW nx nd hat'
  refine Wb.augAttr (by k_extra "e") (Ev.attr (by k_extra "e") J4.mx J4.md ((f3 _ (by decide)).trans g4) ⟨_, rfl⟩ (by k_extra "at") (by kernel_rfl) (by kernel_rfl)) (F5 J4.ext) J4.m6 ((e3 _ (by decide)).trans a1) (by k_extra "at") (P5 _ (by k_is)) (len_step e1 a6) ?_
  intro t7 hes2 p1 p2 p3
  have J5 := J4.f6 hW nx nd hes2
  refine Wb.augAttr (by k_extra "e") (Ev.attr (by k_extra "e") J5.mx J5.md ((f3 _ (by decide)).trans g4) ⟨_, rfl⟩ (by k_extra "at") (by kernel_rfl) (by kernel_rfl)) (F5 J5.ext) J5.m6 ((p3 _ (by decide)).trans ((e3 _ (by decide)).trans a3)) (by k_extra "at") (P5 _ (by k_is)) (len_step p1 (len_step e1 a6)) ?_
  intro t8 hes3 q1 q2 q3
  have J6 := J5.f6 hW nx nd hes3
  refine Wb.ret (by k_extra "e") fun _ => hk x d es1 n _ hes3 (S.thn + 1) hat' _ (alloc_end hW ⟨x, d, es1, n, k, sl, vs, c⟩ J6.ext J6.m6 J6.m7 J6.m8 J6.m11 J6.m16 J6.m19 ⟨⟨⟨J6.mx, nx.nt⟩, ⟨J6.md, nd.nt⟩, ⟨J6.ext _ hs.1 hs.2, hs.2⟩, ⟨_, (f3 _ (by decide)).trans g2⟩, (f3 _ (by decide)).trans g3, hv⟩, ⟨_, (f3 _ (by decide)).trans g1⟩, ⟨_, (f3 _ (by decide)).trans g4⟩⟩
    ((q3 _ (by decide)).trans ((p3 _ (by decide)).trans ((e3 _ (by decide)).trans a4))) ((q3 _ (by decide)).trans ((p3 _ (by decide)).trans ((e3 _ (by decide)).trans a5))) ((q3 _ (by decide)).trans p2) ((q3 _ (by decide)).trans ((p3 _ (by decide)).trans e2)) q2 (len_step q1 (len_step p1 (len_step e1 a6))) hd') J6.ext ⟨J6.mx, nx.nt⟩ ⟨J6.md, nd.nt⟩ ((f3 _ (by decide)).trans g3) ((f3 _ (by decide)).trans g1)


theorem Wd.addKept {w : World} {A : Ad} {S : St} {news : List (Addr × Obj)} (h : Wd w A S news) {v : Value} (hr : KeptIn A news v) {o' : Obj} {n' : Nat} (ho : o' = listOf (S.kept ++ [v]).toArray n') :
    Wd w A { S with kept := S.kept ++ [v], kn := n' } (foc (A.a 19) o' news) :=
  have x : Ext A news (foc (A.a 19) o' news) := Ext.foc Ext.refl (by decide)
  { h with
    mem := h.turned (by decide) (by subst ho; rfl) (tab_sub (fun _ => rfl) (fun _ => rfl) (fun _ => rfl) (fun _ => rfl) (fun _ => rfl) (fun e => absurd rfl e))
    rows := fun i hi => by obtain ⟨r, t, u, h1, h2⟩ := h.rows i hi; exact ⟨r, t, u, h1, h2.ext x⟩
    cores := fun i hi => by obtain ⟨y, d, es, n, t, h1, h2, h3, h4⟩ := h.cores i hi; exact ⟨y, d, es, n, t, h1, h2.ext x, h3.ext x, h4⟩
    things := fun i r hr => (h.things i r hr).ext x
    items := fun i r hr => (h.items i r hr).ext x
    kepts := fun u hu => by
      rcases List.mem_append.mp hu with hu | hu
      · exact (h.kepts u hu).ext x
      · rcases List.mem_singleton.mp hu with rfl
        exact hr.ext x }
theorem c_law_keep (w : World) (A : Ad) (S : St) (c e : Addr) (vs us : List Value) (cn en : Nat) : CC w 1 1414 [.ref (A.a 18), .ref c, .ref e] (fun news => Wd w A S news ∧ Fz A news c (listOf vs.toArray cn) ∧ Fz A news e (listOf us.toArray en) ∧ Same A news vs us ∧ S.kept.length ≤ 10000) (fun news k' => ∀ v n' news', Wd w A { S with kept := S.kept ++ [v], kn := n' } news' → Ext A news news' → k' .none news') := by
  refine cc_of [(Str.ofString "want", .ref e), (Str.ofString "cells", .ref c), (Str.ofString "w", .ref (A.a 18))] (by k_is) (by k_is) (by kernel_rfl) (by k_extra "isb") (by kernel_rfl) (by kernel_rfl) (by kernel_rfl) (by kernel_rfl) (by kernel_rfl) ?_
  intro cx news kz hp hk
  obtain ⟨hW, h1, h2, h3, hz⟩ := hp
  have a2 := hW.wd
  refine Wb.expr (Go.appendG (a := A.a 19) (by k_extra "e") (hW.mem 19 _ rfl) (by exact rfl) (Go.tup (by k_extra "es") (by kernel_rfl) fun a τ ha => ⟨_, _, .tail _ (hW.mem 19 _ rfl), by rw [sizeLine_eq]; omega, trivial, Wb.nil ?_⟩) (by kernel_rfl)) (by exact rfl) (by exact rfl)
  refine hk _ (S.kn + 1) _ (Wd.addKept (Wd.cons hW) ?_ rfl) (Ext.foc (Ext.cons Ext.refl) (by decide))
  exact ⟨_, _, _, _, _, _, _, rfl, ⟨.head _, hW.nt ha⟩, h1.ext (Ext.cons Ext.refl), h2.ext (Ext.cons Ext.refl), h3.ext (Ext.cons Ext.refl)⟩
theorem news_drop2 {h₀ h : Heap} {L : Addr} {p q : Addr × Obj} {l : List (Addr × Obj)} (N : News h₀ L h (p :: q :: l)) : News h₀ L h (p :: l) := fun x hx => by
  rcases List.mem_cons.mp hx with rfl | hx
  · exact N _ (.head _)
  · exact N _ (List.mem_cons_of_mem _ (List.mem_cons_of_mem _ hx))
noncomputable def seen (k r : Int) : Int := if (k = 3 ∨ k = 5 ∨ k = 7 ∨ k = 9 ∨ k = 11) ∧ 2 ^ (lbits k).toNat ≤ r * 2 then r - 2 ^ (lbits k).toNat else r
theorem odd_any {k : Int} (h : ([3, 5, 7, 9, 11].any fun x => x == k) = true) : k = 3 ∨ k = 5 ∨ k = 7 ∨ k = 9 ∨ k = 11 := by
  simp only [List.any_cons, List.any_nil, Bool.or_false, Bool.or_eq_true, beq_iff_eq] at h
  rcases h with h | h | h | h | h <;> subst h <;> decide
theorem any_odd {k : Int} (h : k = 3 ∨ k = 5 ∨ k = 7 ∨ k = 9 ∨ k = 11) : ([3, 5, 7, 9, 11].any fun x => x == k) = true := by rcases h with h | h | h | h | h <;> subst h <;> rfl
theorem seenA {k r : Int} (h : ([3, 5, 7, 9, 11].any fun x => x == k) = true) (g : 2 ^ (lbits k).toNat ≤ r * 2) : r - 2 ^ (lbits k).toNat = seen k r := (if_pos ⟨odd_any h, g⟩).symm
theorem seenB {k r : Int} (g : ¬2 ^ (lbits k).toNat ≤ r * 2) : r = seen k r := (if_neg fun q => g q.2).symm
theorem seenC {k r : Int} (h : ([3, 5, 7, 9, 11].any fun x => x == k) = false) : r = seen k r := (if_neg fun q => by rw [any_odd q.1] at h; cases h).symm
theorem news_tail' {h₀ h : Heap} {L : Addr} {p : Addr × Obj} {l : List (Addr × Obj)} (N : News h₀ L h (p :: l)) : News h₀ L h l := fun x hx => N x (List.mem_cons_of_mem _ hx)
theorem andE {a b : Bool} (h : (a && (b && true)) = true) : a = true ∧ b = true := by simpa using h
theorem nandE {a b : Bool} (h : (a && (b && true)) = false) : a = false ∨ b = false := by cases a <;> cases b <;> first | exact .inl rfl | exact .inr rfl | cases h
theorem seenN {k r : Int} (h : ([3, 5, 7, 9, 11].any fun x => x == k) = false ∨ (decide (2 ^ (lbits k).toNat ≤ r * 2)) = false) : r = seen k r := h.elim seenC fun g => seenB (dF g)
theorem c_law_seen (w : World) (k r : Int) (t u : Tok) : CP w 2 1372 [.int k t, .int r u] (fun _ => 1 ≤ k ∧ k ≤ 11 ∧ -(2 ^ 70) ≤ r ∧ r ≤ 2 ^ 70) (fun t => .int (seen k r) t) := by
  refine cc_of [(Str.ofString "raw", .int r u), (Str.ofString "kind", .int k t)] (by k_is) (by k_is) (by kernel_rfl) (by k_extra "isb") (by kernel_rfl) (by kernel_rfl) (by kernel_rfl) (by kernel_rfl) (by kernel_rfl) ?_
  intro cx news kz hp hk
  obtain ⟨h1, h2, h3, h4⟩ := hp
  have hb := lbits_le k h1 h2
  k_with "cc" => first | exact c_law_bits w k _ | fail
  k_with "pre" => first | exact ⟨h1, h2⟩ | fail
  k_with "t" => first | (with_reducible show Tst _ _ _ _ _ _ (Expr.Compare _ [CmpOp.In] _ _) _); exact Tst.inL (l := [3, 5, 7, 9, 11]) (by k_extra "e") (by kernel_rfl) (by kernel_rfl) (by kernel_rfl) | fail
  k_extra "w"
  · obtain ⟨e1, e2⟩ := andE ‹_›
    exact endI hk (seenA e1 (dT e2))
  · exact endI hk (seenN (nandE ‹_›))
noncomputable def stN (k n : Int) : Int := if (k = 8 ∨ k = 10) ∧ 2 ^ (lbits k).toNat ≤ n * 2 then n - 2 ^ (lbits k).toNat else n
theorem wide_any {k : Int} (h : ([8, 10].any fun x => x == k) = true) : k = 8 ∨ k = 10 := by
  simp only [List.any_cons, List.any_nil, Bool.or_false, Bool.or_eq_true, beq_iff_eq] at h
  rcases h with h | h <;> subst h <;> decide
theorem stT {k n : Int} (h : ([8, 10].any fun x => x == k) = true) (g : 2 ^ (lbits k).toNat ≤ n * 2) : n - 2 ^ (lbits k).toNat = stN k n := (if_pos ⟨wide_any h, g⟩).symm
theorem stF {k n : Int} (h : ([8, 10].any fun x => x == k) = false ∨ (decide (2 ^ (lbits k).toNat ≤ n * 2)) = false) : n = stN k n := (if_neg fun q => by
  rcases h with h | h
  · rcases q.1 with e | e <;> subst e <;> cases h
  · exact dF h q.2).symm
theorem stored_q {k g m : Int} {news : Led} {kz : Value → Led → Prop} {a : Addr} {t u : Tok} (q : kz (.ref a) ((a, tp [.int (stTag k) t, .int m u]) :: news)) (e : g = stTag k) : kz (.ref a) ((a, tp [.int g t, .int m u]) :: news) := e ▸ q
theorem c_law_stored (w : World) (A : Ad) (S : St) (k n : Int) (t u : Tok) : CC w 2 1379 [.int k t, .int n u] (fun news => Wd w A S news ∧ 1 ≤ k ∧ k ≤ 11 ∧ -(2 ^ 70) ≤ n ∧ n ≤ 2 ^ 70) (fun news k' => ∀ a t u, NA A a → k' (.ref a) ((a, tp [.int (stTag k) t, .int (stN k n) u]) :: news)) := by
  refine cc_of [(Str.ofString "n", .int n u), (Str.ofString "kind", .int k t)] (by k_is) (by k_is) (by kernel_rfl) (by k_extra "isb") (by kernel_rfl) (by kernel_rfl) (by kernel_rfl) (by kernel_rfl) (by kernel_rfl) ?_
  intro cx news kz hp hk
  obtain ⟨hW, h1, h2, h3, h4⟩ := hp
  have hb := lbits_le k h1 h2
  k_with "t" => first | (with_reducible show Tst _ _ _ _ _ _ (Expr.Compare _ [CmpOp.In] _ _) _); exact Tst.inL (l := [8, 10]) (by k_extra "e") (by kernel_rfl) (by kernel_rfl) (by kernel_rfl) | fail
  refine Wb.ifL [(Str.ofString "n", fun t => .int (stN k n) t), (Str.ofString "kind", fun t => .int k t)] (by k_extra "t") (fun e => ?_) (fun e => ?_) ?_
  · obtain ⟨e1, e2⟩ := andE e
    k_with "end" => first | exact ⟨rfl, LocTo.two (Vl.i (stT e1 (dT e2)))⟩ | fail
    k_extra "w"
  · exact LocTo.one (Vl.i (stF (nandE e)))
  k_extra "w"
  all_goals refine Wb.retG (Go.tup (by k_extra "es") (by kernel_rfl) fun a τ ha => ?_)
  · exact stored_q (hk _ _ _ (hW.na ‹_›)) (stB ‹_›)
  · exact stored_q (hk _ _ _ (hW.na ‹_›)) (stC ‹_›)
  · rename_i e1 e2
    refine stored_q (hk _ _ _ (hW.na ‹_›)) ?_
    unfold stTag
    rw [if_neg (norE e1), if_neg (dF e2)]


theorem Fz.mk {A : Ad} {news : List (Addr × Obj)} {a : Addr} {o : Obj} (h1 : (a, o) ∈ news) (h2 : NT A a) : Fz A news a o := ⟨h1, h2⟩
theorem at_last {l : List TR} {r : TR} : (Value.none :: thv (l ++ [r]))[(((l.length + 1 : Nat) : Nat) : Int).toNat]? = some (.ref r.a) := by
  rw [Int.toNat_natCast, List.getElem?_cons_succ]
  unfold thv
  rw [List.getElem?_map, List.getElem?_append_right (Nat.le_refl _), Nat.sub_self]
  rfl
theorem Fz.cons {A : Ad} {l : List (Addr × Obj)} {p : Addr × Obj} {a : Addr} {o : Obj} (h : Fz A l a o) : Fz A (p :: l) a o := ⟨List.mem_cons_of_mem _ h.1, h.2⟩
theorem Fz.ext2 {A : Ad} {n1 n2 : List (Addr × Obj)} {a : Addr} {o : Obj} (e : Ext A n1 n2) (h : Fz A n1 a o) : Fz A n2 a o := h.ext e
theorem Same.mkp {A : Ad} {news : List (Addr × Obj)} {a b : Addr} {k n : Int} {t u t' u' : Tok} (h : Fz A news a (tp [.int k t, .int n u])) (g : Fz A news b (tp [.int k t', .int n u'])) : Same A news [.ref a] [.ref b] := .pair a b k n t u t' u' h g
theorem Ext.trans2 {A : Ad} {n1 n2 n3 : List (Addr × Obj)} (e : Ext A n2 n3) (h : Ext A n1 n2) : Ext A n1 n3 := h.trans e
theorem Fz.head {A : Ad} {l : List (Addr × Obj)} {a : Addr} {o : Obj} (h : NT A a) : Fz A ((a, o) :: l) a o := ⟨.head _, h⟩
theorem CC.mono {w : World} {d : Nat} {f : Addr} {vs : List Value} {pre : List (Addr × Obj) → Prop} {T T' : List (Addr × Obj) → (Value → List (Addr × Obj) → Prop) → Prop} (C : CC w d f vs pre T) (m : ∀ news k, pre news → T' news k → T news k) : CC w d f vs pre T' :=
  ⟨fun _ _ _ _ _ _ _ _ _ _ _ _ _ _ _ _ _ _ _ _ _ _ _ B F X N T hk hp hd hu ret => C.run _ _ _ _ _ _ _ _ _ _ _ _ _ _ _ _ _ _ _ _ _ _ _ B F X N T hk hp hd hu (m _ _ hp ret)⟩
theorem c_law_stored' (w : World) (A : Ad) (S : St) (k n : Int) (t u : Tok) : CC w 2 1379 [.int k t, .int n u] (fun news => Wd w A S news ∧ 1 ≤ k ∧ k ≤ 11 ∧ -(2 ^ 70) ≤ n ∧ n ≤ 2 ^ 70)
    (fun news k' => ∀ a t u news', Wd w A S news' → Ext A news news' → Fz A news' a (tp [.int (stTag k) t, .int (stN k n) u]) → k' (.ref a) news') :=
  (c_law_stored w A S k n t u).mono fun news k' hp h a t u hn => h a t u _ hp.1.cons Ext.refl.cons ⟨.head _, hn.nt⟩
theorem c_law_box (w : World) (A : Ad) (S : St) (k lk n : Int) (t u v : Tok) : CC w 7 1421 [.ref (A.a 18), .int k t, .int lk u, .int n v] (fun news => Wd w A S news ∧ 1 ≤ lk ∧ lk ≤ 11 ∧ -(2 ^ 70) ≤ n ∧ n ≤ 2 ^ 70 ∧ S.tl.length ≤ 9000 ∧ S.il.length ≤ 9000 ∧ S.kept.length ≤ 9000) (fun news k' => ∀ S' news' b q x d es n1 sl c x2 d2 es2 n2 sl2 c2 v2 t1 t2 t3 t4, Wd w A S' news' → Ext A news news' → S'.tl = S.tl ++ [⟨x, d, es, n1, k, sl, [.ref q], c⟩] → S'.il = S.il ++ [⟨x2, d2, es2, n2, k, sl2, [.int n v2], c2⟩] → S'.sk = S.sk → S'.st = S.st → S'.kept.length = S.kept.length + 2 → Fz A news' x2 (instObj 361 d2) → Fz A news' d2 (dictOf es2 n2) → getL (Str.ofString "slots") es2 = some (some (.ref sl2)) → Fz A news' sl2 (listOf [Value.int n v2].toArray c2) → Fz A news' q (tp [.int (stTag lk) t1, .int (stN lk n) t2]) → Fz A news' b (tp [.int (S.il.length + 1 : Nat) t3, .int (16 + 3 * ((S.tl.length : Nat) : Int)) t4]) → k' (.ref b) news') := by
  refine cc_of [(Str.ofString "n", .int n v), (Str.ofString "like", .int lk u), (Str.ofString "kind", .int k t), (Str.ofString "w", .ref (A.a 18))] (by k_is) (by k_is) (by kernel_rfl) (by k_extra "isb") (by kernel_rfl) (by kernel_rfl) (by kernel_rfl) (by kernel_rfl) (by kernel_rfl) ?_
  intro cx news kz hp hk
  obtain ⟨hW, h1, h2, h3, h4, z1, z2, z3⟩ := hp
  have y0 := hW.wd
  have y1 := hW.m_heap
  have y2 := hW.e_things
  refine Wb.assignG (Go.callA (by kernel_rfl) (by k_is) (by k_is) (by kernel_rfl) (EvA.cons (V := fun _ => .ref (A.a 14)) (by k_extra "e") (by kernel_rfl) fun _ => EvA.cons (by k_extra "e") (by kernel_rfl) fun t1 => EvA.go (Go.list (by k_extra "es") (by kernel_rfl) fun sl τ ha => EvA.nil (Go.ctr (c_new_item w A S k sl [.int n (τ 0)] 0 t1) (by decide) ⟨hW.cons, ⟨.head _, hW.nt ha⟩, Nat.le_refl 1, by omega⟩ (by k_extra "mono") ?_)) (by kernel_rfl))) (by kernel_rfl) (by exact rfl)
  intro t2 x2 d2 es2 n2 n2' news1 W1 E1 i1 j1 g1
  refine ⟨fun t => .int (S.il.length + 1 : Nat) t, ⟨_, rfl⟩, ?_⟩
  have s1 := Fz.ext (Fz.head (hW.nt ha)) E1
  have E1' : Ext A news news1 := fun p hp hn => E1 p (.tail _ hp) hn
  refine Wb.assignG (Go.callA (by kernel_rfl) (by k_is) (by k_is) (by kernel_rfl) (EvA.cons (V := fun _ => .ref (A.a 5)) (by k_extra "e") (by kernel_rfl) fun _ => EvA.cons (by k_extra "e") (by kernel_rfl) fun t3 => EvA.go (Go.listA (EvA.go (Go.callT (by kernel_rfl) (by k_is) (by k_is) (by k_extra "es") (fun τ => c_law_stored' w A _ lk n (τ 0) (τ 1)) (by kernel_rfl) (by decide) (fun _ => by exact ⟨W1, h1, h2, h3, h4⟩) (fun _ => by k_extra "mono") ?_) (by kernel_rfl))) (by kernel_rfl))) (by kernel_rfl) (by exact rfl)
  intro τ2 q u1 u2 news2 W2 E2 f2
  refine EvA.nil ⟨Nat.le_of_ble_eq_true rfl, fun s3 ha3 => EvA.nil (Go.ctr (c_heap_alloc w A _ k s3 [.ref q] 0 t3) (by decide) ⟨W2.cons, ⟨.head _, W2.nt ha3⟩, Nat.le_refl 1, by exact Nat.le_trans z1 (by decide)⟩ (by k_extra "mono") ?_)⟩
  intro x d es n1 t4 hes' n3' hat' news3 W3 E3 i3 j3 g3 g4
  refine ⟨fun _ => .ref x, ⟨0, rfl⟩, ?_⟩
  have s3' := Fz.ext (Fz.head (W2.nt ha3)) E3
  have E3' : Ext A news2 news3 := fun p hp hn => E3 p (.tail _ hp) hn
  have E13 : Ext A news1 news3 := E2.trans E3'
  have f3 := f2.ext E3'
  have i13 := i1.ext E13
  have j13 := j1.ext E13
  have s13 := s1.ext E13
  have ix : (Value.none :: thv (S.il ++ [⟨x2, d2, es2, n2, k, sl, [.int n (τ 0)], 0⟩]))[(((S.il.length + 1 : Nat) : Nat) : Int).toNat]? = some (.ref x2) := at_last
  refine Wb.expr (Go.callA (by kernel_rfl) (by k_is) (by k_is) (by kernel_rfl) (EvA.cons (V := fun _ => .ref (A.a 18)) (by k_extra "e") (by kernel_rfl) fun _ => EvA.cons (V := fun _ => .ref sl) (by k_extra "e") (by kernel_rfl) fun _ => EvA.go (Go.list (by k_extra "es") (by kernel_rfl) fun s4 τ4 ha4 => EvA.nil (Go.ctr (c_law_keep w A _ sl s4 [.int n (τ 0)] [.int n (τ4 0)] 0 0) (by decide) ⟨W3.cons, s13.cons, ⟨.head _, W3.nt ha4⟩, .num _ _ _, by exact Nat.le_trans z3 (by decide)⟩ (by k_extra "mono") ?_)) (by kernel_rfl))) (by exact rfl) (by exact rfl)
  intro v4 n4' news4 W4 E4
  refine ⟨trivial, ?_⟩
  have E4' : Ext A news3 news4 := fun p hp hn => E4 p (.tail _ hp) hn
  have i34 := i3.ext E4'
  have j34 := j3.ext E4'
  have s34 := s3'.ext E4'
  have f4 := f3.ext E4'
  refine Wb.expr (Go.callA (by kernel_rfl) (by k_is) (by k_is) (by kernel_rfl) (EvA.cons (V := fun _ => .ref (A.a 18)) (by k_extra "e") (by kernel_rfl) fun _ => EvA.cons (V := fun _ => .ref s3) (by k_extra "e") (by kernel_rfl) fun _ => EvA.go (Go.listA (EvA.go (Go.callT (by kernel_rfl) (by k_is) (by k_is) (by k_extra "es") (fun τ => c_law_stored' w A _ lk n (τ 0) (τ 1)) (by kernel_rfl) (by decide) (fun _ => by exact ⟨W4, h1, h2, h3, h4⟩) (fun _ => by k_extra "mono") ?_) (by kernel_rfl))) (by kernel_rfl))) (by exact rfl) (by exact rfl)
  intro τ5 q5 u5 u6 news5 W5 E5 f5
  refine EvA.nil ⟨Nat.le_of_ble_eq_true rfl, fun s6 ha6 => EvA.nil (Go.ctr (c_law_keep w A _ s3 s6 [.ref q] [.ref q5] 0 0) (by decide) ⟨W5.cons, (s34.ext E5).cons, ⟨.head _, W5.nt ha6⟩, Same.mkp ((f4.ext E5).cons) f5.cons, by show (S.kept ++ [v4]).length ≤ 10000; rw [List.length_append]; exact Nat.le_trans (Nat.succ_le_succ z3) (by decide)⟩ (by k_extra "mono") ?_)⟩
  intro v6 n6' news6 W6 E6
  refine ⟨trivial, ?_⟩
  have E6' : Ext A news5 news6 := fun p hp hn => E6 p (.tail _ hp) hn
  have E46 : Ext A news4 news6 := E5.trans E6'
  have i36 := i34.ext E46
  have j36 := j34.ext E46
  have E36 : Ext A news3 news6 := E4'.trans E46
  refine Wb.retG (Go.tup (by k_extra "es") (by kernel_rfl) fun b τ7 hb => ?_)
  have N6 := Ext.refl.cons (p := (b, tp (app [fun t => Value.int (S.il.length + 1 : Nat) t, fun t => Value.int (16 + 3 * ((S.tl.length : Nat) : Int)) t] τ7))) (A := A) (n2 := news6)
  exact hk _ _ b q x d es n1 s3 0 x2 d2 es2 n2 sl 0 (τ 0) u1 u2 _ _ W6.cons ((((E1'.trans E13).trans E36)).trans N6) rfl rfl rfl rfl (by show ((S.kept ++ [v4]) ++ [v6]).length = _; rw [List.length_append, List.length_append]; rfl) ((i13.ext E36).ext N6) ((j13.ext E36).ext N6) g1 ((s13.ext E36).ext N6) ((f3.ext E36).ext N6) ⟨.head _, W6.nt hb⟩


theorem pow_le (k : Int) (h1 : 1 ≤ k) (h2 : k ≤ 11) : (1 : Int) ≤ 2 ^ (lbits k).toNat ∧ (2 : Int) ^ (lbits k).toNat ≤ 2 ^ 64 := by
  rcases kcases h1 h2 with h | h | h | h | h | h | h | h | h | h | h <;> subst h <;> decide
theorem seen_bd (k r : Int) (h1 : 1 ≤ k) (h2 : k ≤ 11) (h3 : 0 ≤ r) (h4 : r < 2 ^ 64) : -(2 ^ 64) ≤ seen k r ∧ seen k r ≤ 2 ^ 64 := by
  have := pow_le k h1 h2
  unfold seen
  generalize (2 : Int) ^ (lbits k).toNat = x at *
  split <;> omega
noncomputable def LK (k lk : Int) : Prop := lk = k ∨ (3 ≤ k ∧ k ≤ 10 ∧ lk = k - 1 + k % 2 * 2)
theorem wrap8 (n : Int) : wrapBits n 8 = if n % 256 < 128 then n % 256 else n % 256 - 256 := by
  unfold wrapBits
  have e : Builtin.bitAnd n (1 * 2 ^ (8 : Int).toNat - 1) = n % 256 := by
    have := kbt_mask n 8
    simpa using this
  rw [e]
  have h := Int.emod_nonneg n (show (256 : Int) ≠ 0 by decide)
  have h2 := Int.emod_lt_of_pos n (show (0 : Int) < 256 by decide)
  rw [Int.fdiv_eq_ediv_of_nonneg _ (by decide)]
  simp only [show (2 : Int) ^ ((8 : Int) - 1).toNat = 128 by decide, show (1 : Int) * 2 ^ (8 : Int).toNat = 256 by decide]
  generalize n % 256 = m at *
  split <;> split <;> omega
theorem wrap16 (n : Int) : wrapBits n 16 = if n % 65536 < 32768 then n % 65536 else n % 65536 - 65536 := by
  unfold wrapBits
  have e : Builtin.bitAnd n (1 * 2 ^ (16 : Int).toNat - 1) = n % 65536 := by
    have := kbt_mask n 16
    simpa using this
  rw [e]
  have h := Int.emod_nonneg n (show (65536 : Int) ≠ 0 by decide)
  have h2 := Int.emod_lt_of_pos n (show (0 : Int) < 65536 by decide)
  rw [Int.fdiv_eq_ediv_of_nonneg _ (by decide)]
  simp only [show (2 : Int) ^ ((16 : Int) - 1).toNat = 32768 by decide, show (1 : Int) * 2 ^ (16 : Int).toNat = 65536 by decide]
  generalize n % 65536 = m at *
  split <;> split <;> omega
theorem wrap32_is (n : Int) : wrapBits n 32 = if n % 4294967296 < 2147483648 then n % 4294967296 else n % 4294967296 - 4294967296 := by
  unfold wrapBits
  have e : Builtin.bitAnd n (1 * 2 ^ (32 : Int).toNat - 1) = n % 4294967296 := by
    have := kbt_mask n 32
    simpa using this
  rw [e]
  have h := Int.emod_nonneg n (show (4294967296 : Int) ≠ 0 by decide)
  have h2 := Int.emod_lt_of_pos n (show (0 : Int) < 4294967296 by decide)
  rw [Int.fdiv_eq_ediv_of_nonneg _ (by decide)]
  simp only [show (2 : Int) ^ ((32 : Int) - 1).toNat = 2147483648 by decide, show (1 : Int) * 2 ^ (32 : Int).toNat = 4294967296 by decide]
  generalize n % 4294967296 = m at *
  split <;> split <;> omega
theorem wrap64_is (n : Int) : wrapBits n 64 = if n % 18446744073709551616 < 9223372036854775808 then n % 18446744073709551616 else n % 18446744073709551616 - 18446744073709551616 := by
  unfold wrapBits
  have e : Builtin.bitAnd n (1 * 2 ^ (64 : Int).toNat - 1) = n % 18446744073709551616 := by
    have := kbt_mask n 64
    simpa using this
  rw [e]
  have h := Int.emod_nonneg n (show (18446744073709551616 : Int) ≠ 0 by decide)
  have h2 := Int.emod_lt_of_pos n (show (0 : Int) < 18446744073709551616 by decide)
  rw [Int.fdiv_eq_ediv_of_nonneg _ (by decide)]
  simp only [show (2 : Int) ^ ((64 : Int) - 1).toNat = 9223372036854775808 by decide, show (1 : Int) * 2 ^ (64 : Int).toNat = 18446744073709551616 by decide]
  generalize n % 18446744073709551616 = m at *
  split <;> split <;> omega
theorem and8 (n : Int) : Builtin.bitAnd n 255 = n % 256 := kbt_mask n 8
theorem and16 (n : Int) : Builtin.bitAnd n 65535 = n % 65536 := kbt_mask n 16
theorem and32 (n : Int) : Builtin.bitAnd n 4294967295 = n % 4294967296 := kbt_mask n 32
theorem and64 (n : Int) : Builtin.bitAnd n 18446744073709551615 = n % 18446744073709551616 := kbt_mask n 64
/-- the powers of a kind, as numbers -/
structure KN (k : Int) (W lo : Int) : Prop where
  pw : (2 : Int) ^ (lbits k).toNat = W
  low : loK k = lo
  hig : hiK k = lo + W - 1
theorem kn1 : KN 1 256 0 := ⟨by decide, by decide, by decide⟩
theorem kn2 : KN 2 65536 0 := ⟨by decide, by decide, by decide⟩
theorem kn3 : KN 3 256 (-128) := ⟨by decide, by decide, by decide⟩
theorem kn4 : KN 4 256 0 := ⟨by decide, by decide, by decide⟩
theorem kn5 : KN 5 65536 (-32768) := ⟨by decide, by decide, by decide⟩
theorem kn6 : KN 6 65536 0 := ⟨by decide, by decide, by decide⟩
theorem kn7 : KN 7 4294967296 (-2147483648) := ⟨by decide, by decide, by decide⟩
theorem kn8 : KN 8 4294967296 0 := ⟨by decide, by decide, by decide⟩
theorem kn9 : KN 9 18446744073709551616 (-9223372036854775808) := ⟨by decide, by decide, by decide⟩
theorem kn10 : KN 10 18446744073709551616 0 := ⟨by decide, by decide, by decide⟩
theorem kn11 : KN 11 4294967296 (-2147483648) := ⟨by decide, by decide, by decide⟩
theorem LK.le {k lk : Int} (h : LK k lk) (h1 : 1 ≤ k) (h2 : k ≤ 11) : 1 ≤ lk ∧ lk ≤ 11 := by
  rcases h with h | h <;> omega
theorem LK.wide {k lk : Int} (h : LK k lk) (h1 : 1 ≤ k) (h2 : k ≤ 11) : lbits lk = lbits k := by
  rcases kcases h1 h2 with e | e | e | e | e | e | e | e | e | e | e <;> subst e <;> rcases h with h | ⟨_, _, h⟩ <;> subst h <;> first | rfl | (exfalso; omega) | decide
theorem LK.tag {k lk : Int} (h : LK k lk) (h1 : 1 ≤ k) (h2 : k ≤ 11) : stTag lk = stTag k := by
  rcases kcases h1 h2 with e | e | e | e | e | e | e | e | e | e | e <;> subst e <;> rcases h with h | ⟨_, _, h⟩ <;> subst h <;> first | rfl | (exfalso; omega) | decide
theorem KN.seen {k W lo : Int} (K : KN k W lo) (r : Int) : seen k r = if (k = 3 ∨ k = 5 ∨ k = 7 ∨ k = 9 ∨ k = 11) ∧ W ≤ r * 2 then r - W else r := by unfold Hd.seen; rw [K.pw]
theorem KN.stN {k W lo : Int} (K : KN k W lo) (n : Int) : stN k n = if (k = 8 ∨ k = 10) ∧ W ≤ n * 2 then n - W else n := by unfold Hd.stN; rw [K.pw]
theorem KN.twin {k W lo : Int} (K : KN k W lo) (hW : 0 ≤ W) (v : Int) : twin k v = lo + (v - lo) % W := by
  unfold Hd.twin
  rw [K.low, K.hig, show lo + W - 1 - lo + 1 = W by omega, Int.fmod_eq_emod_of_nonneg _ hW]
theorem em_j {W r v : Int} (j : Int) (h3 : 0 ≤ r) (h4 : r < W) (h : v = r + W * j) : v % W = r := by rw [h, Int.add_mul_emod_self_left]; exact Int.emod_eq_of_lt h3 h4
theorem em_or {W r v : Int} (h3 : 0 ≤ r) (h4 : r < W) (hv : v = r ∨ v = r - W) : v % W = r := by
  rcases hv with h | h
  · exact em_j 0 h3 h4 (by omega)
  · exact em_j (-1) h3 h4 (by omega)
/-- a number's bits read with a sign -/
noncomputable def sg (W r : Int) : Int := if W ≤ r * 2 then r - W else r
theorem tw_u {W r v : Int} (h3 : 0 ≤ r) (h4 : r < W) (hv : v = r ∨ v = r - W) : 0 + (v - 0) % W = r := by rw [Int.sub_zero, Int.zero_add]; exact em_or h3 h4 hv
theorem tw_s {W H r v : Int} (hW : W = 2 * H) (h3 : 0 ≤ r) (h4 : r < W) (hv : v = r ∨ v = r - W) : -H + (v - -H) % W = sg W r := by
  unfold sg
  by_cases h : W ≤ r * 2
  · rw [if_pos h]
    have : (v - -H) % W = r - H := by rcases hv with e | e; exact em_j 1 (by omega) (by omega) (by omega); exact em_j 0 (by omega) (by omega) (by omega)
    rw [this]; omega
  · rw [if_neg h]
    have : (v - -H) % W = r + H := by rcases hv with e | e; exact em_j 0 (by omega) (by omega) (by omega); exact em_j (-1) (by omega) (by omega) (by omega)
    rw [this]; omega
theorem wr_s {W H r v : Int} (hW : W = 2 * H) (h3 : 0 ≤ r) (h4 : r < W) (hv : v = r ∨ v = r - W) : (if v % W < H then v % W else v % W - W) = sg W r := by
  rw [em_or h3 h4 hv]
  unfold sg
  by_cases h : W ≤ r * 2
  · rw [if_pos h, if_neg (by omega)]
  · rw [if_neg h, if_pos (by omega)]
theorem seen_or (lk r : Int) : seen lk r = r ∨ seen lk r = r - 2 ^ (lbits lk).toNat := by
  unfold seen
  split
  · exact .inr rfl
  · exact .inl rfl
theorem seen_or' {k lk W lo r : Int} (K : KN k W lo) (h : LK k lk) (h1 : 1 ≤ k) (h2 : k ≤ 11) : seen lk r = r ∨ seen lk r = r - W := by
  have := seen_or lk r
  rw [h.wide h1 h2, K.pw] at this
  exact this
theorem stN_or {k lk W lo r : Int} (K : KN k W lo) (h : LK k lk) (h1 : 1 ≤ k) (h2 : k ≤ 11) (h3 : 0 ≤ r) (h4 : r < W) : stN lk (seen lk r) = r ∨ stN lk (seen lk r) = r - W := by
  have e := seen_or' (r := r) K h h1 h2
  unfold Hd.stN
  rw [h.wide h1 h2, K.pw]
  split
  · rename_i q
    rcases e with e | e
    · rw [e]; exact .inr rfl
    · rw [e] at q; omega
  · exact e
theorem KN.sg {k W lo : Int} (K : KN k W lo) (hk : k = 3 ∨ k = 5 ∨ k = 7 ∨ k = 9 ∨ k = 11) (r : Int) : Hd.seen k r = Hd.sg W r := by
  rw [K.seen]; unfold Hd.sg
  by_cases h : W ≤ r * 2
  · rw [if_pos h, if_pos ⟨hk, h⟩]
  · rw [if_neg h, if_neg fun q => h q.2]
theorem KN.us {k W lo : Int} (K : KN k W lo) (hk : ¬(k = 3 ∨ k = 5 ∨ k = 7 ∨ k = 9 ∨ k = 11)) (r : Int) : Hd.seen k r = r := by rw [K.seen, if_neg fun q => hk q.1]
theorem KN.st0 {k W lo : Int} (K : KN k W lo) (hk : ¬(k = 8 ∨ k = 10)) (n : Int) : Hd.stN k n = n := by rw [K.stN, if_neg fun q => hk q.1]
theorem KN.st1 {k W lo : Int} (K : KN k W lo) (hk : k = 8 ∨ k = 10) (n : Int) : Hd.stN k n = Hd.sg W n := by
  rw [K.stN]; unfold Hd.sg
  by_cases h : W ≤ n * 2
  · rw [if_pos h, if_pos ⟨hk, h⟩]
  · rw [if_neg h, if_neg fun q => h q.2]
theorem tws {k lk W H r : Int} (K : KN k W (-H)) (h : LK k lk) (h1 : 1 ≤ k) (h2 : k ≤ 11) (hW : W = 2 * H) (hp : 0 ≤ W) (hk : k = 3 ∨ k = 5 ∨ k = 7 ∨ k = 9 ∨ k = 11) (h3 : 0 ≤ r) (h4 : r < 2 ^ (lbits k).toNat) : twin k (seen lk r) = seen k r := by
  rw [K.pw] at h4
  rw [K.twin hp, K.sg hk]
  exact tw_s hW h3 h4 (seen_or' K h h1 h2)
theorem twu {k lk W r : Int} (K : KN k W 0) (h : LK k lk) (h1 : 1 ≤ k) (h2 : k ≤ 11) (hp : 0 ≤ W) (hk : ¬(k = 3 ∨ k = 5 ∨ k = 7 ∨ k = 9 ∨ k = 11)) (h3 : 0 ≤ r) (h4 : r < 2 ^ (lbits k).toNat) : twin k (seen lk r) = seen k r := by
  rw [K.pw] at h4
  rw [K.twin hp, K.us hk]
  exact tw_u h3 h4 (seen_or' K h h1 h2)
/-- k's number out of the number that its twin keeps -/
theorem twin_seen {k lk r : Int} (h : LK k lk) (h1 : 1 ≤ k) (h2 : k ≤ 11) (h3 : 0 ≤ r) (h4 : r < 2 ^ (lbits k).toNat) : twin k (seen lk r) = seen k r := by
  rcases kcases h1 h2 with e | e | e | e | e | e | e | e | e | e | e <;> subst e
  · exact twu kn1 h h1 h2 (by decide) (by decide) h3 h4
  · exact twu kn2 h h1 h2 (by decide) (by decide) h3 h4
  · exact tws kn3 h h1 h2 (by decide) (by decide) (by decide) h3 h4
  · exact twu kn4 h h1 h2 (by decide) (by decide) h3 h4
  · exact tws kn5 h h1 h2 (by decide) (by decide) (by decide) h3 h4
  · exact twu kn6 h h1 h2 (by decide) (by decide) h3 h4
  · exact tws kn7 h h1 h2 (by decide) (by decide) (by decide) h3 h4
  · exact twu kn8 h h1 h2 (by decide) (by decide) h3 h4
  · exact tws kn9 h h1 h2 (by decide) (by decide) (by decide) h3 h4
  · exact twu kn10 h h1 h2 (by decide) (by decide) h3 h4
  · exact tws kn11 h h1 h2 (by decide) (by decide) (by decide) h3 h4
theorem cut1 (n : Int) : cutTo 1 n = n % 256 := and8 n
theorem cut2 (n : Int) : cutTo 2 n = n % 65536 := and16 n
theorem cut3 (n : Int) : cutTo 3 n = if n % 256 < 128 then n % 256 else n % 256 - 256 := wrap8 n
theorem cut4 (n : Int) : cutTo 4 n = n % 256 := and8 n
theorem cut5 (n : Int) : cutTo 5 n = if n % 65536 < 32768 then n % 65536 else n % 65536 - 65536 := wrap16 n
theorem cut6 (n : Int) : cutTo 6 n = n % 65536 := and16 n
theorem cut7 (n : Int) : cutTo 7 n = if n % 4294967296 < 2147483648 then n % 4294967296 else n % 4294967296 - 4294967296 := wrap32_is n
theorem cut8 (n : Int) : cutTo 8 n = if n % 4294967296 < 2147483648 then n % 4294967296 else n % 4294967296 - 4294967296 := wrap32_is n
theorem cut9 (n : Int) : cutTo 9 n = if n % 18446744073709551616 < 9223372036854775808 then n % 18446744073709551616 else n % 18446744073709551616 - 18446744073709551616 := wrap64_is n
theorem cut10 (n : Int) : cutTo 10 n = if n % 18446744073709551616 < 9223372036854775808 then n % 18446744073709551616 else n % 18446744073709551616 - 18446744073709551616 := wrap64_is n
theorem cut11 (n : Int) : cutTo 11 n = if n % 4294967296 < 2147483648 then n % 4294967296 else n % 4294967296 - 4294967296 := wrap32_is n
theorem cus {k lk W H lo r : Int} (K : KN k W lo) (c : ∀ n, cutTo k n = if n % W < H then n % W else n % W - W) (h : LK k lk) (h1 : 1 ≤ k) (h2 : k ≤ 11) (hW : W = 2 * H) (hk : (k = 3 ∨ k = 5 ∨ k = 7 ∨ k = 9 ∨ k = 11) ∧ ¬(k = 8 ∨ k = 10) ∨ ¬(k = 3 ∨ k = 5 ∨ k = 7 ∨ k = 9 ∨ k = 11) ∧ (k = 8 ∨ k = 10)) (h3 : 0 ≤ r) (h4 : r < 2 ^ (lbits k).toNat) :
    cutTo k (stN lk (seen lk r)) = stN k (seen k r) := by
  rw [K.pw] at h4
  rw [c, wr_s hW h3 h4 (stN_or K h h1 h2 h3 h4)]
  rcases hk with hk | hk
  · rw [K.st0 hk.2, K.sg hk.1]
  · rw [K.us hk.1, K.st1 hk.2]
theorem cuu {k lk W lo r : Int} (K : KN k W lo) (c : ∀ n, cutTo k n = n % W) (h : LK k lk) (h1 : 1 ≤ k) (h2 : k ≤ 11) (hk : ¬(k = 3 ∨ k = 5 ∨ k = 7 ∨ k = 9 ∨ k = 11) ∧ ¬(k = 8 ∨ k = 10)) (h3 : 0 ≤ r) (h4 : r < 2 ^ (lbits k).toNat) :
    cutTo k (stN lk (seen lk r)) = stN k (seen k r) := by
  rw [K.pw] at h4
  rw [c, em_or h3 h4 (stN_or K h h1 h2 h3 h4), K.us hk.1, K.st0 hk.2]
theorem cut_stored {k lk r : Int} (h : LK k lk) (h1 : 1 ≤ k) (h2 : k ≤ 11) (h3 : 0 ≤ r) (h4 : r < 2 ^ (lbits k).toNat) : cutTo k (stN lk (seen lk r)) = stN k (seen k r) := by
  rcases kcases h1 h2 with e | e | e | e | e | e | e | e | e | e | e <;> subst e
  · exact cuu kn1 cut1 h h1 h2 (by decide) h3 h4
  · exact cuu kn2 cut2 h h1 h2 (by decide) h3 h4
  · exact cus kn3 cut3 h h1 h2 (by decide) (by decide) h3 h4
  · exact cuu kn4 cut4 h h1 h2 (by decide) h3 h4
  · exact cus kn5 cut5 h h1 h2 (by decide) (by decide) h3 h4
  · exact cuu kn6 cut6 h h1 h2 (by decide) h3 h4
  · exact cus kn7 cut7 h h1 h2 (by decide) (by decide) h3 h4
  · exact cus kn8 cut8 h h1 h2 (by decide) (by decide) h3 h4
  · exact cus kn9 cut9 h h1 h2 (by decide) (by decide) h3 h4
  · exact cus kn10 cut10 h h1 h2 (by decide) (by decide) h3 h4
  · exact cus kn11 cut11 h h1 h2 (by decide) (by decide) h3 h4


noncomputable def BoxAt (A : Ad) (S : St) (news : List (Addr × Obj)) (k n : Int) (i j : Nat) : Prop :=
  ∃ (r r2 : TR) (q : Addr) (t u v : Tok), S.il[i]? = some r ∧ r.kind = k ∧ r.vs = [.int n t] ∧ S.tl[j]? = some r2 ∧ r2.kind = k ∧ r2.vs = [.ref q] ∧ Fz A news q (tp [.int (stTag k) u, .int (stN k n) v])
inductive BoxIn (A : Ad) (S : St) (news : List (Addr × Obj)) (k n b0 b1 : Int) : Prop
  | none (h1 : b0 = 0) (h2 : b1 = 0)
  | box (i j : Nat) (h1 : b0 = i + 1) (h2 : b1 = 16 + 3 * j) (h : BoxAt A S news k n i j)
inductive CellIn (A : Ad) (S : St) (news : List (Addr × Obj)) (k r : Int) (c : Addr) : Prop
  | mk (t1 t2 t3 q : Addr) (lk b0 b1 : Int) (u1 u2 u3 u4 : Tok) (hl : LK k lk) (h1 : Src A news t1 (seen lk r)) (h2 : Plc A S news t2 q) (h3 : Fz A news q (tp [.int (stTag lk) u1, .int (stN lk (seen lk r)) u2]))
    (h4 : BoxIn A S news k (seen k r) b0 b1) (h5 : Fz A news t3 (tp [.int b0 u3, .int b1 u4])) (h6 : Fz A news c (tp [.ref t1, .ref t2, .ref t3]))
structure StLe (S S' : St) : Prop where
  tl : ∃ l, S'.tl = S.tl ++ l
  il : ∃ l, S'.il = S.il ++ l
  sk : ∀ o v, valueAt S.sk o = some v → valueAt S'.sk o = some v
theorem StLe.refl {S : St} : StLe S S := ⟨⟨[], by simp⟩, ⟨[], by simp⟩, fun _ _ h => h⟩
theorem at_app {l l' : List TR} {i : Nat} {r : TR} (h : l[i]? = some r) (e : ∃ x, l' = l ++ x) : l'[i]? = some r := by
  obtain ⟨x, rfl⟩ := e
  rw [List.getElem?_append_left (List.getElem?_eq_some_iff.mp h).1]
  exact h
theorem Plc.heap' {A : Ad} {S : St} {news : List (Addr × Obj)} {t2 q : Addr} {i : Nat} {r : TR} {e : Addr} {t u : Tok} {n : Int} (h1 : Fz A news t2 (tp [.int 3 t, .int n u, .ref e])) (hn : n = 18 + 3 * (i : Int)) (h2 : Fz A news e te) (h3 : S.tl[i]? = some r) (h4 : r.vs = [.ref q]) : Plc A S news t2 q := .heap i r e t u (hn ▸ h1) h2 h3 h4
theorem Plc.grow {A : Ad} {S S' : St} {n1 n2 : List (Addr × Obj)} {t2 q : Addr} (h : Plc A S n1 t2 q) (e : Ext A n1 n2) (l : StLe S S') : Plc A S' n2 t2 q := by
  cases h with
  | heap i r e' t u h1 h2 h3 h4 => exact .heap i r e' t u (h1.ext e) (h2.ext e) (at_app h3 l.tl) h4
  | stat own c e' cn v t u x h1 h2 h3 h4 => exact .stat own c e' cn v t u x (h1.ext e) (h2.ext e) (l.sk _ _ h3) (h4.ext e)
  | deep own c e' s0 u0 s1 u1 cn v v' t u x y1 y2 z1 z2 z3 z4 h1 h2 h3 h4 h5 h6 h7 h8 => exact .deep own c e' s0 u0 s1 u1 cn v v' t u x y1 y2 z1 z2 z3 z4 (h1.ext e) (h2.ext e) (l.sk _ _ h3) (h4.ext e) (h5.ext e) (h6.ext e) (h7.ext e) (h8.ext e)
theorem BoxAt.grow {A : Ad} {S S' : St} {n1 n2 : List (Addr × Obj)} {k n : Int} {i j : Nat} (h : BoxAt A S n1 k n i j) (e : Ext A n1 n2) (l : StLe S S') : BoxAt A S' n2 k n i j := by
  obtain ⟨r, r2, q, t, u, v, h1, h2, h3, h4, h5, h6, h7⟩ := h
  exact ⟨r, r2, q, t, u, v, at_app h1 l.il, h2, h3, at_app h4 l.tl, h5, h6, h7.ext e⟩
theorem BoxIn.grow {A : Ad} {S S' : St} {n1 n2 : List (Addr × Obj)} {k n b0 b1 : Int} (h : BoxIn A S n1 k n b0 b1) (e : Ext A n1 n2) (l : StLe S S') : BoxIn A S' n2 k n b0 b1 := by
  cases h with
  | none h1 h2 => exact .none h1 h2
  | box i j h1 h2 h => exact .box i j h1 h2 (h.grow e l)
theorem at_last' {l l' : List TR} {r : TR} (e : l' = l ++ [r]) : (Value.none :: thv l')[(((l.length + 1 : Nat) : Nat) : Int).toNat]? = some (.ref r.a) := by rw [e]; exact at_last
theorem at_end {l l' : List TR} {r : TR} (e : l' = l ++ [r]) : l'[l.length]? = some r := by
  subst e
  rw [List.getElem?_append_right (Nat.le_refl _), Nat.sub_self]
  rfl
theorem stored_self (k : Int) (v : Value) : ∀ kvs : List (Int × Value), valueAt (stored kvs k v) k = some v := by
  intro kvs
  unfold stored
  split
  · rename_i h
    induction kvs with
    | nil => cases h
    | cons p r ih =>
      unfold valueAt at ih ⊢
      rw [List.map_cons, List.find?_cons]
      by_cases e : p.1 = k
      · simp [e]
      · have h' : (r.any fun kv => decide (kv.1 = k)) = true := by simpa [e] using h
        have := ih h'
        simpa [e] using this
  · rename_i h
    have : kvs.find? (fun kv => decide (kv.1 = k)) = none := by
      rw [List.find?_eq_none]
      intro x hx hk
      exact h (List.any_eq_true.mpr ⟨x, hx, hk⟩)
    unfold valueAt
    rw [List.find?_append, this]
    simp
theorem len_one {l l' : List TR} {r : TR} (e : l' = l ++ [r]) : l'.length ≤ l.length + 1 := by rw [e, List.length_append]; exact Nat.le_refl _
theorem opq {w : World} {A : Ad} {S : St} {news : List (Addr × Obj)} {h₀ h : Heap} {L D : Addr} {o : Obj} (hW : Wd w A S news) (N : News h₀ L h ((D, o) :: news)) (l : ∀ p ∈ news, p.1 < D) :
    ∃ news', Wd w A S news' ∧ Ext A news news' ∧ Fz A news' D o ∧ News h₀ L h news' := ⟨_, hW.cons, Ext.refl.cons, ⟨.head _, hW.nt l⟩, N⟩
section
variable {w : World} {B : Around} {E : Value → Shared → Prop} {s : Shared} {h₀ : Heap} {L : Addr} {m : Str → Option Value} {news : List (Addr × Obj)} {A : Ad} {S : St} {vs : List Value}
theorem tup_w {M : Model} {Q : Value → Shared → Prop} (hW : Wd w A S news) (F : Fr h₀ L s.heap m) (N : News h₀ L s.heap news)
    (h : ∀ D h' news', Fr h₀ L h' m → Wd w A S news' → Ext A news news' → Fz A news' D (tp vs) → News h₀ L h' news' → Q (.ref D) { s with heap := h' }) (hz : vs.length ≤ sizeLine) : wpAny M B (newTuple vs) Q E s :=
  kup_newTuple F N (fun D h' F' N' l => by
    obtain ⟨n', a, b, c, d⟩ := opq hW N' l
    exact h D h' n' F' a b c d) hz
end
theorem Wd.addStat {w : World} {A : Ad} {S : St} {news : List (Addr × Obj)} (h : Wd w A S news) {o' : Obj} {sk' : List (Int × Value)} (ho : o'.IsDictOf (intKind pg w) sk') :
    Wd w A { S with st := o', sk := sk' } (foc (A.a 11) o' news) :=
  have x : Ext A news (foc (A.a 11) o' news) := Ext.foc Ext.refl (by decide)
  { h with
    mem := h.turned (by decide) rfl (tab_sub (fun _ => rfl) (fun _ => rfl) (fun _ => rfl) (fun e => absurd rfl e) (fun _ => rfl) (fun _ => rfl))
    sta := ho
    rows := fun i hi => by obtain ⟨r, t, u, h1, h2⟩ := h.rows i hi; exact ⟨r, t, u, h1, h2.ext x⟩
    cores := fun i hi => by obtain ⟨y, d, es, n, t, h1, h2, h3, h4⟩ := h.cores i hi; exact ⟨y, d, es, n, t, h1, h2.ext x, h3.ext x, h4⟩
    things := fun i r hr => (h.things i r hr).ext x
    items := fun i r hr => (h.items i r hr).ext x
    kepts := fun u hu => (h.kepts u hu).ext x }


section
variable {w : World} {D : Nat} {c : Cx} {cs : Scope} {mm : Locs} {news : Led} {A : Ad} {S : St}
/-- a new tuple in the world -/
theorem Go.tupW {elts : List PySem.Expr} {kk : Nat} {pos : Pos} {Vs : List (Tok → Value)} {K : Value → Led → Prop} (hW : Wd w A S news) (he : EvL w D c cs mm news pos elts Vs) (hz : decide (Vs.length ≤ sizeLine) = true)
    (h : ∀ a τ n', Wd w A S n' → Ext A news n' → Fz A n' a (tp (app Vs τ)) → K (.ref a) n') : Go w D c cs mm news (eval (.Tuple elts kk pos) (c.env cs)) K :=
  Go.tup he hz fun a τ ha => h a τ _ hW.cons Ext.refl.cons ⟨.head _, hW.nt ha⟩
theorem Go.listW {elts : List PySem.Expr} {pos : Pos} {Vs : List (Tok → Value)} {K : Value → Led → Prop} (hW : Wd w A S news) (he : EvL w D c cs mm news pos elts Vs) (hz : decide (Vs.length ≤ sizeLine) = true)
    (h : ∀ a τ n', Wd w A S n' → Ext A news n' → Fz A n' a (listOf (app Vs τ).toArray 0) → K (.ref a) n') : Go w D c cs mm news (eval (.List elts pos) (c.env cs)) K :=
  Go.list he hz fun a τ ha => h a τ _ hW.cons Ext.refl.cons ⟨.head _, hW.nt ha⟩
/-- a new tuple at the end of arguments that turned the ledger -/
theorem EvA.nilT {pos : Pos} {K : Value → Led → Prop} {vs : List Value} (hW : Wd w A S news) (hz : vs.length ≤ sizeLine) (h : ∀ a n', Wd w A S n' → Ext A news n' → Fz A n' a (tp vs) → K (.ref a) n') :
    EvA w D c cs mm news pos [] fun ws n1 => ws = [] → vs.length ≤ sizeLine ∧ ∀ a, (∀ p ∈ n1, p.1 < a) → K (.ref a) ((a, tp vs) :: n1) :=
  EvA.nil fun _ => ⟨hz, fun a ha => h a _ hW.cons Ext.refl.cons ⟨.head _, hW.nt ha⟩⟩
end
/-- what a cell holds, and where its number stands in it -/
inductive Shape (A : Ad) (news : Led) (lk n : Int) (st q : Addr) (j : Int) (vs us : List Value) : Prop
  | flat (x u : Tok) (p : Addr) (hj : j = 1) (hv : vs = [.int 7 x, .int n u]) (hu : us = [.ref p, .ref q]) (hs : Fz A news st te)
  | deep (q0 q2 s0 u0 s1 u1 : Addr) (v' : Value) (x u y z1 z2 y1 y2 y3 y4 : Tok) (v : Value) (hj : j = 0) (hv : vs = [.ref q0]) (hu : us = [.ref s0]) (hs : Fz A news st (tp [.int 1 z1, .int 0 z2])) (h4 : Fz A news q0 (tp [.int 5 x, .ref q2])) (h5 : Fz A news q2 (tp [.int n u, .int 6 y]))
      (g5 : Fz A news s0 (tp [.int 5 y1, .int 50 y2, .ref u0])) (g6 : Fz A news u0 (tp [v, .ref s1])) (g7 : Fz A news s1 (tp [.int 5 y3, .int 51 y4, .ref u1])) (g8 : Fz A news u1 (tp [.ref q, v']))
theorem Shape.ext {A : Ad} {n1 n2 : Led} {lk n j : Int} {st q : Addr} {vs us : List Value} (h : Shape A n1 lk n st q j vs us) (e : Ext A n1 n2) : Shape A n2 lk n st q j vs us := by
  cases h with
  | flat x u p hj hv hu hs => exact .flat x u p hj hv hu (hs.ext e)
  | deep q0 q2 s0 u0 s1 u1 v' x u y z1 z2 y1 y2 y3 y4 v hj hv hu hs h4 h5 g5 g6 g7 g8 => exact .deep q0 q2 s0 u0 s1 u1 v' x u y z1 z2 y1 y2 y3 y4 v hj hv hu (hs.ext e) (h4.ext e) (h5.ext e) (g5.ext e) (g6.ext e) (g7.ext e) (g8.ext e)
theorem Shape.len {A : Ad} {news : Led} {lk n j : Int} {st q : Addr} {vs us : List Value} (h : Shape A news lk n st q j vs us) : vs.length ≤ 2 ∧ us.length ≤ 2 := by
  cases h with
  | flat x u p hj hv hu hs => subst hv; subst hu; exact ⟨Nat.le_refl 2, Nat.le_refl 2⟩
  | deep q0 q2 s0 u0 s1 u1 v' x u y z1 z2 y1 y2 y3 y4 v hj hv hu hs h4 h5 g5 g6 g7 g8 => subst hv; subst hu; exact ⟨Nat.le_succ 1, Nat.le_succ 1⟩
theorem Shape.src {A : Ad} {news : Led} {lk n j : Int} {st q c t1 : Addr} {vs us : List Value} {cn : Nat} {t : Tok} (h : Shape A news lk n st q j vs us) (h1 : Fz A news t1 (tp [.ref c, .int j t, .ref st])) (h2 : Fz A news c (listOf vs.toArray cn)) : Src A news t1 n := by
  cases h with
  | flat x u p hj hv hu hs => subst hv; subst hj; exact .stat c st cn t u x h1 h2 hs
  | deep q0 q2 s0 u0 s1 u1 v' x u y z1 z2 y1 y2 y3 y4 v hj hv hu hs h4 h5 g5 g6 g7 g8 => subst hv; subst hj; exact .deep c st q0 q2 cn t u x y z1 z2 h1 h2 hs h4 h5
theorem Shape.plc {A : Ad} {S : St} {news : Led} {lk n j own : Int} {st q c t2 : Addr} {vs us : List Value} {cn : Nat} {t u x : Tok} (h : Shape A news lk n st q j vs us) (h1 : Fz A news t2 (tp [.int 4 t, .int own u, .int j x, .ref st])) (h3 : valueAt S.sk own = some (.ref c)) (h4 : Fz A news c (listOf us.toArray cn)) : Plc A S news t2 q := by
  cases h with
  | flat x' u' p hj hv hu hs => subst hu; subst hj; exact .stat own c st cn _ t u x h1 hs h3 h4
  | deep q0 q2 s0 u0 s1 u1 v' x' u' y z1 z2 y1 y2 y3 y4 v hj hv hu hs h4' h5 g5 g6 g7 g8 => subst hu; subst hj; exact .deep own c st s0 u0 s1 u1 cn v v' t u x z1 z2 y1 y2 y3 y4 h1 hs h3 h4 g5 g6 g7 g8
noncomputable def cellT (A : Ad) (S : St) (k r : Int) (news : Led) (k' : Value → Led → Prop) (w : World) : Prop := ∀ S' news' c, Wd w A S' news' → Ext A news news' → S'.tl.length ≤ S.tl.length + 1 → S'.il.length ≤ S.il.length + 1 → S'.kept.length ≤ S.kept.length + 2 → S'.sk.length ≤ S.sk.length + 1 → CellIn A S' news' k r c → k' (.ref c) news'
theorem c_law_cell (w : World) (A : Ad) (S : St) (k r f : Int) (t u v : Tok) : CC w 9 1428 [.ref (A.a 18), .int k t, .int r u, .int f v] (fun news => Wd w A S news ∧ 1 ≤ k ∧ k ≤ 11 ∧ 0 ≤ r ∧ r < 2 ^ 64 ∧ 0 ≤ f ∧ f ≤ 4 ∧ S.tl.length ≤ 8000 ∧ S.il.length ≤ 8000 ∧ S.kept.length ≤ 8000 ∧ S.sk.length ≤ 8000) (fun news k' => ∀ S' news' c, Wd w A S' news' → Ext A news news' → S'.tl.length ≤ S.tl.length + 1 → S'.il.length ≤ S.il.length + 1 → S'.kept.length ≤ S.kept.length + 2 → S'.sk.length ≤ S.sk.length + 1 → CellIn A S' news' k r c → k' (.ref c) news') := by
  refine cc_of [(Str.ofString "form", .int f v), (Str.ofString "raw", .int r u), (Str.ofString "kind", .int k t), (Str.ofString "w", .ref (A.a 18))] (by k_is) (by k_is) (by kernel_rfl) (by k_extra "isb") (by kernel_rfl) (by kernel_rfl) (by kernel_rfl) (by kernel_rfl) (by kernel_rfl) ?_
  intro cx news kz hp hk
  obtain ⟨hW, h1, h2, h3, h4, h5, h6, z1, z2, z3, z4⟩ := hp
  have y0 := hW.wd
  have y1 := hW.m_statics
  have y2 := hW.e_things
  obtain ⟨b1, b2⟩ := seen_bd k r h1 h2 h3 h4
  k_with "cc" => first | exact c_law_seen w _ r _ _ | fail
  k_with "pre" => first | exact ⟨by omega, by omega, by omega, by omega⟩ | fail
  refine Wb.if0 (by k_extra "t") (fun _ => ?_) (fun _ => ?_)
  · refine Wb.assignG (Go.callT (by kernel_rfl) (by k_is) (by k_is) (by k_extra "es") (fun τ => c_law_box w A S k k (seen k r) (τ 1) (τ 2) (τ 3)) (by kernel_rfl) (by decide) (fun _ => by exact ⟨hW, h1, h2, by omega, by omega, by omega, by omega, by omega⟩) (fun _ => by k_extra "mono") ?_) (by kernel_rfl) (by exact rfl)
    intro τ S' n1 b q x d es m1 sl c x2 d2 es2 m2 sl2 c2 v2 t1 t2 t3 t4 W1 E1 e1 e2 e3 e4 e5 i1 j1 g1 s1 f1 fb
    refine ⟨fun _ => .ref b, ⟨0, rfl⟩, ?_⟩
    have ix : (Value.none :: thv S'.il)[(((S.il.length + 1 : Nat) : Nat) : Int).toNat]? = some (.ref x2) := at_last' e2
    refine Wb.retG ?_
    refine Go.tupA ?_
    refine EvA.go ?_ (by kernel_rfl)
    refine Go.tupA ?_
    refine EvA.cons (V := fun _ => .ref sl2) (by k_extra "e") (by kernel_rfl) fun _ => ?_
    refine EvA.cons (by k_extra "e") (by kernel_rfl) fun t5 => ?_
    refine EvA.go (Go.tupW W1 EvL.nil (by kernel_rfl) fun s1' τ1 n2 W2 E2 q2 => ?_) (by kernel_rfl)
    refine EvA.nil ⟨Nat.le_of_ble_eq_true rfl, fun a1 ha1 => ?_⟩
    have E3 : Ext A n2 ((a1, tp [Value.ref sl2, .int 0 t5, .ref s1']) :: n2) := Ext.refl.cons
    refine EvA.go (Go.tupA (EvA.cons (by k_extra "e") (by kernel_rfl) fun t6 => EvA.cons (V := fun t => .int (16 + 3 * ((S.tl.length : Nat) : Int) + 2) t) (by k_extra "e") (by kernel_rfl) fun t7 => EvA.go (Go.tupW W2.cons EvL.nil (by kernel_rfl) fun s2 τ2 n4 W4 E4 q4 => EvA.nil ⟨Nat.le_of_ble_eq_true rfl, fun a2 ha2 => ?_⟩) (by kernel_rfl))) (by kernel_rfl)
    refine EvA.cons (V := fun _ => .ref b) (by k_extra "e") (by kernel_rfl) fun _ => EvA.nil ⟨Nat.le_of_ble_eq_true rfl, fun c' hc' => ?_⟩
    have p1 : Fz A ((a1, tp [Value.ref sl2, .int 0 t5, .ref s1']) :: n2) a1 (tp [Value.ref sl2, .int 0 t5, .ref s1']) := ⟨.head _, W2.nt ha1⟩
    have E5 : Ext A n4 ((c', tp [Value.ref a1, .ref a2, .ref b]) :: (a2, tp [Value.int 3 t6, .int (16 + 3 * ((S.tl.length : Nat) : Int) + 2) t7, .ref s2]) :: n4) := Ext.refl.cons.cons
    have E15 := ((E2.trans E3).trans E4).trans E5
    have p2 : Fz A ((c', tp [Value.ref a1, .ref a2, .ref b]) :: (a2, tp [Value.int 3 t6, .int (16 + 3 * ((S.tl.length : Nat) : Int) + 2) t7, .ref s2]) :: n4) a2 (tp [Value.int 3 t6, .int (16 + 3 * ((S.tl.length : Nat) : Int) + 2) t7, .ref s2]) := ⟨.tail _ (.head _), W4.nt ha2⟩
    exact hk S' _ c' W4.cons.cons (E1.trans E15) (len_one e1) (len_one e2) (Nat.le_of_eq e5) (Nat.le_succ_of_le (Nat.le_of_eq (congrArg List.length e3))) (CellIn.mk a1 a2 b q k _ _ _ _ _ _ (.inl rfl) (Src.box _ _ _ _ _ (p1.ext (E4.trans E5)) (s1.ext E15) (q2.ext ((E3.trans E4).trans E5))) (Plc.heap' p2 (by omega) (q4.ext E5) (at_end e1) rfl) (f1.ext E15) (BoxIn.box S.il.length S.tl.length (by omega) rfl ⟨_, _, _, _, _, _, at_end e2, rfl, rfl, at_end e1, rfl, rfl, f1.ext E15⟩) (fb.ext E15) ⟨.head _, W4.cons.nt hc'⟩)
  have h7 : 0 ≤ k.fmod 2 ∧ k.fmod 2 < 2 := ⟨Int.fmod_nonneg_of_pos _ (by decide), Int.fmod_lt_of_pos _ (by decide)⟩
  refine Wb.assign (by k_extra "e") (by kernel_rfl) (by exact rfl) ?_
  refine Wb.ifJ (fun m' n' => n' = news ∧ ∃ lk, LK k lk ∧ LocTo m' [(Str.ofString "like", fun t => .int lk t), (Str.ofString "form", fun t => .int f t), (Str.ofString "raw", fun t => .int r t), (Str.ofString "w", fun _ => .ref (A.a 18))]) (by k_extra "t") (fun e => ?_) (fun _ => ?_) ?_
  · simp only [Bool.and_eq_true, decide_eq_true_eq, Bool.and_true] at e
    exact Wb.assign (V := fun t => .int (k - 1 + k.fmod 2 * 2) t) (by k_extra "e") (by kernel_rfl) (by exact rfl) (Wb.nil ⟨rfl, k - 1 + k.fmod 2 * 2, .inr ⟨e.2.1, e.2.2, by rw [Int.fmod_eq_emod_of_nonneg _ (show (0 : Int) ≤ 2 by decide)]⟩, by k_extra "loc"⟩)
  · exact Wb.nil ⟨rfl, k, .inl rfl, by k_extra "loc"⟩
  rintro m' nw ⟨rfl, lk, hl, hm⟩
  refine Wb.locs hm ?_
  obtain ⟨d1, d2⟩ := hl.le h1 h2
  obtain ⟨b3, b4⟩ := seen_bd lk r d1 d2 h3 h4
  have hs : 1 ≤ lk ∧ lk ≤ 11 ∧ -(2 ^ 70) ≤ r ∧ r ≤ 2 ^ 70 := ⟨d1, d2, by omega, by omega⟩
  have hst : 1 ≤ lk ∧ lk ≤ 11 ∧ -(2 ^ 70) ≤ seen lk r ∧ seen lk r ≤ 2 ^ 70 := ⟨d1, d2, by omega, by omega⟩
  k_with "pre" => first | exact hs | fail
  refine Wb.assign (V := fun t => .int (seen lk r) t) (by k_extra "e") (by kernel_rfl) (by exact rfl) ?_
  refine Wb.assign (by k_extra "e") (by kernel_rfl) (by exact rfl) ?_
  refine Wb.assignG (Go.tupW hW EvL.nil (by kernel_rfl) fun s0 τ0 n1 W1 E1 q1 => ⟨fun _ => .ref s0, ⟨0, rfl⟩, ?_⟩) (by kernel_rfl) (by exact rfl)
  refine Wb.assignG (Go.listW W1 (by k_extra "es") (by kernel_rfl) fun c0 τ1 n2 W2 E2 q2 => ⟨fun _ => .ref c0, ⟨0, rfl⟩, ?_⟩) (by kernel_rfl) (by exact rfl)
  refine Wb.assignG (Go.listA (EvA.go (Go.tupW W2 (by k_extra "es") (by kernel_rfl) fun p τ2 n3 W3 E3 q3 => EvA.go (Go.callT (by kernel_rfl) (by k_is) (by k_is) (by k_extra "es") (fun τ => c_law_stored' w A S lk (seen lk r) (τ 0) (τ 1)) (by kernel_rfl) (by decide) (fun _ => by exact ⟨W3, hst⟩) (fun _ => by k_extra "mono") ?_) (by kernel_rfl)) (by kernel_rfl))) (by kernel_rfl) (by exact rfl)
  intro τ3 q u1 u2 n4 W4 E4 q4
  refine EvA.nil ⟨Nat.le_of_ble_eq_true rfl, fun d0 hd0 => ⟨fun _ => .ref d0, ⟨0, rfl⟩, ?_⟩⟩
  have E5 : Ext A n4 ((d0, listOf [Value.ref p, .ref q].toArray 0) :: n4) := Ext.refl.cons
  have W5 := W4.cons (p := (d0, listOf [Value.ref p, .ref q].toArray 0))
  have q5 : Fz A ((d0, listOf [Value.ref p, .ref q].toArray 0) :: n4) d0 (listOf [Value.ref p, .ref q].toArray 0) := ⟨.head _, W4.nt hd0⟩
  refine Wb.ifJ (fun m' n' => ∃ q j st c d vs us cn dn x1 x2, Wd w A S n' ∧ Ext A n4 n' ∧ Shape A n' lk (seen lk r) st q j vs us ∧ Fz A n' q (tp [.int (stTag lk) x1, .int (stN lk (seen lk r)) x2]) ∧ Fz A n' c (listOf vs.toArray cn) ∧ Fz A n' d (listOf us.toArray dn) ∧
    LocTo m' [(Str.ofString "slots", fun _ => .ref d), (Str.ofString "cells", fun _ => .ref c), (Str.ofString "steps", fun _ => .ref st), (Str.ofString "spot", fun t => .int j t), (Str.ofString "w", fun _ => .ref (A.a 18))]) (by k_extra "t") (fun e => ?_) (fun _ => ?_) ?_
  · refine Wb.assign (by k_extra "e") (by kernel_rfl) (by exact rfl) ?_
    refine Wb.assignG (Go.tupW W5 (by k_extra "es") (by kernel_rfl) fun s1 τ4 n6 W6 E6 q6 => ⟨fun _ => .ref s1, ⟨0, rfl⟩, ?_⟩) (by kernel_rfl) (by exact rfl)
    refine Wb.assignG (Go.listA (EvA.go (Go.tupA (EvA.cons (by k_extra "e") (by kernel_rfl) fun t5 => EvA.go (Go.tupW W6 (by k_extra "es") (by kernel_rfl) fun q8 τ5 n7 W7 E7 p7 => EvA.nil ⟨Nat.le_of_ble_eq_true rfl, fun q9 hq9 => ?_⟩) (by kernel_rfl))) (by kernel_rfl))) (by kernel_rfl) (by exact rfl)
    refine EvA.nil ⟨Nat.le_of_ble_eq_true rfl, fun c1 hc1 => ⟨fun _ => .ref c1, ⟨0, rfl⟩, ?_⟩⟩
    have W9 := W7.cons (p := (q9, tp [Value.int 5 t5, .ref q8]))
    have r9 : Fz A ((c1, listOf [Value.ref q9].toArray 0) :: (q9, tp [Value.int 5 t5, .ref q8]) :: n7) q9 (tp [Value.int 5 t5, .ref q8]) := ⟨.tail _ (.head _), W7.nt hq9⟩
    have r10 : Fz A ((c1, listOf [Value.ref q9].toArray 0) :: (q9, tp [Value.int 5 t5, .ref q8]) :: n7) c1 (listOf [Value.ref q9].toArray 0) := ⟨.head _, W9.nt hc1⟩
    have E9 : Ext A n7 ((c1, listOf [Value.ref q9].toArray 0) :: (q9, tp [Value.int 5 t5, .ref q8]) :: n7) := Ext.refl.cons.cons
    refine Wb.assignG (Go.listA (EvA.go (Go.tupA (EvA.cons (by k_extra "e") (by kernel_rfl) fun v1 => EvA.cons (by k_extra "e") (by kernel_rfl) fun v2 => EvA.go (Go.tupA (EvA.go (Go.tupW W9.cons (by k_extra "es") (by kernel_rfl) fun w1 τ6 m1 X1 F1 k1 => EvA.go (Go.tupA (EvA.cons (by k_extra "e") (by kernel_rfl) fun v3 => EvA.cons (by k_extra "e") (by kernel_rfl) fun v4 => EvA.go (Go.tupA (EvA.go (Go.callT (by kernel_rfl) (by k_is) (by k_is) (by k_extra "es") (fun τ => c_law_stored' w A S lk (seen lk r) (τ 0) (τ 1)) (by kernel_rfl) (by decide) (fun _ => by exact ⟨X1, hst⟩) (fun _ => by k_extra "mono") ?_) (by kernel_rfl))) (by kernel_rfl))) (by kernel_rfl)) (by kernel_rfl))) (by kernel_rfl))) (by kernel_rfl))) (by kernel_rfl) (by exact rfl)
    intro τ7 q' x1 x2 m2 X2 F2 k2
    refine EvA.go (Go.tupW X2 (by k_extra "es") (by kernel_rfl) fun w2 τ8 m3 X3 F3 k3 => EvA.nil ⟨Nat.le_of_ble_eq_true rfl, fun a4 h4' => EvA.nil ⟨Nat.le_of_ble_eq_true rfl, fun a5 h5' => EvA.nil ⟨Nat.le_of_ble_eq_true rfl, fun a6 h6' => EvA.nil ⟨Nat.le_of_ble_eq_true rfl, fun a7 h7' => EvA.nil ⟨Nat.le_of_ble_eq_true rfl, fun d1 hd1 => ⟨fun _ => .ref d1, ⟨0, rfl⟩, Wb.nil ?_⟩⟩⟩⟩⟩⟩) (by kernel_rfl)
    have F4 : Ext A m3 ((d1, listOf [Value.ref a7].toArray 0) :: (a7, tp [Value.int 5 v1, .int 50 v2, .ref a6]) :: (a6, tp [Value.ref w1, .ref a5]) :: (a5, tp [Value.int 5 v3, .int 51 v4, .ref a4]) :: (a4, tp [Value.ref q', .ref w2]) :: m3) := Ext.refl.cons.cons.cons.cons.cons
    have F14 := ((F1.trans F2).trans F3).trans F4
    exact ⟨q', 0, s1, c1, d1, [.ref q9], [.ref a7], 0, 0, x1, x2, X3.cons.cons.cons.cons.cons, ((E5.trans E6).trans (E7.trans E9)).trans F14, .deep q9 q8 a7 a6 a5 a4 (.ref w2) _ _ _ _ _ _ _ _ _ (.ref w1) rfl rfl rfl (((q6.ext E7).ext E9).ext F14) (r9.ext F14) ((p7.ext E9).ext F14)
      ⟨.tail _ (.head _), X3.cons.cons.cons.nt h7'⟩ ⟨.tail _ (.tail _ (.head _)), X3.cons.cons.nt h6'⟩ ⟨.tail _ (.tail _ (.tail _ (.head _))), X3.cons.nt h5'⟩ ⟨.tail _ (.tail _ (.tail _ (.tail _ (.head _)))), X3.nt h4'⟩, k2.ext (F3.trans F4), r10.ext F14, ⟨.head _, X3.cons.cons.cons.cons.nt hd1⟩, by k_extra "loc"⟩
  · exact Wb.nil ⟨q, 1, s0, c0, d0, _, _, 0, 0, u1, u2, W5, E5, .flat _ _ p rfl rfl rfl ((((q1.ext E2).ext E3).ext E4).ext E5), q4.ext E5, ((q2.ext E3).ext E4).ext E5, q5, by k_extra "loc"⟩
  · rintro m' n' ⟨q, j, st, c, d, vs, us, cn, dn, x1, x2, W6, E6, sh, f1, fc, fd, hm⟩
    refine Wb.locs hm ?_
    refine Wb.assign (V := fun t => .int (100 + (S.kept.length : Int)) t) (by k_extra "e") (by kernel_rfl) (by exact rfl) ?_
    refine Wb.setItem (by k_extra "e") (by k_extra "e") (by k_extra "e") (W6.mem 11 _ rfl) W6.sta (by rw [sizeLine_eq]; omega) (by exact rfl) ?_
    intro t1 ob hd'
    have W7 := W6.addStat hd'
    have E7 : Ext A n' (foc (A.a 11) ob n') := Ext.foc Ext.refl (by decide)
    have c7 := fc.ext E7
    have d7 := fd.ext E7
    obtain ⟨g1, g2⟩ := sh.len
    refine Wb.expr (Go.callA (by kernel_rfl) (by k_is) (by k_is) (by kernel_rfl) (EvA.cons (V := fun _ => .ref (A.a 18)) (by k_extra "e") (by kernel_rfl) fun _ => EvA.cons (V := fun _ => .ref c) (by k_extra "e") (by kernel_rfl) fun _ => EvA.go (Go.slice (by k_extra "e") c7.1 (by rw [sizeLine_eq]; omega) fun c2 hc2 => EvA.nil (Go.ctr (c_law_keep w A _ c c2 vs vs cn 0) (by decide) ⟨W7.cons, c7.cons, ⟨.head _, W7.nt hc2⟩, .copy vs g1, by exact Nat.le_trans z3 (by decide)⟩ (by k_extra "mono") ?_)) (by kernel_rfl))) (by exact rfl) (by exact rfl)
    intro v1 m1 n8 W8 E8
    refine ⟨trivial, ?_⟩
    have E8' : Ext A (foc (A.a 11) ob n') n8 := fun p hp hn => E8 p (.tail _ hp) hn
    have c8 := c7.ext E8'
    have d8 := d7.ext E8'
    refine Wb.expr (Go.callA (by kernel_rfl) (by k_is) (by k_is) (by kernel_rfl) (EvA.cons (V := fun _ => .ref (A.a 18)) (by k_extra "e") (by kernel_rfl) fun _ => EvA.cons (V := fun _ => .ref d) (by k_extra "e") (by kernel_rfl) fun _ => EvA.go (Go.slice (by k_extra "e") d8.1 (by rw [sizeLine_eq]; omega) fun d2 hd2 => EvA.nil (Go.ctr (c_law_keep w A _ d d2 us us dn 0) (by decide) ⟨W8.cons, d8.cons, ⟨.head _, W8.nt hd2⟩, .copy us g2, by show (S.kept ++ [v1]).length ≤ 10000; rw [List.length_append]; exact Nat.le_trans (Nat.succ_le_succ z3) (by decide)⟩ (by k_extra "mono") ?_)) (by kernel_rfl))) (by exact rfl) (by exact rfl)
    intro v2 m2 n9 W9 E9
    refine ⟨trivial, ?_⟩
    have E9' : Ext A n8 n9 := fun p hp hn => E9 p (.tail _ hp) hn
    have E79 := (E7.trans E8').trans E9'
    refine Wb.retG (Go.tupA (EvA.go (Go.tupA (EvA.cons (V := fun _ => .ref c) (by k_extra "e") (by kernel_rfl) fun _ => EvA.cons (V := fun t => .int j t) (by k_extra "e") (by kernel_rfl) fun t5 => EvA.cons (V := fun _ => .ref st) (by k_extra "e") (by kernel_rfl) fun _ => EvA.nil ⟨Nat.le_of_ble_eq_true rfl, fun a1 ha1 => ?_⟩)) (by kernel_rfl)))
    refine EvA.go (Go.tupA (EvA.cons (by k_extra "e") (by kernel_rfl) fun t6 => EvA.cons (V := fun t => .int (100 + (S.kept.length : Int)) t) (by k_extra "e") (by kernel_rfl) fun t7 => EvA.cons (V := fun t => .int j t) (by k_extra "e") (by kernel_rfl) fun t8 => EvA.cons (V := fun _ => .ref st) (by k_extra "e") (by kernel_rfl) fun _ => EvA.nil ⟨Nat.le_of_ble_eq_true rfl, fun a2 ha2 => ?_⟩)) (by kernel_rfl)
    refine EvA.go (Go.tupW W9.cons.cons (by k_extra "es") (by kernel_rfl) fun a3 τ9 n12 W12 E12 q12 => EvA.nil ⟨Nat.le_of_ble_eq_true rfl, fun c' hc' => ?_⟩) (by kernel_rfl)
    have E13 : Ext A n12 ((c', tp [Value.ref a1, .ref a2, .ref a3]) :: n12) := Ext.refl.cons
    have p1 := (Fz.cons (p := (a2, tp [Value.int 4 t6, .int (100 + (S.kept.length : Int)) t7, .int j t8, .ref st])) (Fz.head (o := tp [Value.ref c, .int j t5, .ref st]) (W9.nt ha1))).ext (E12.trans E13)
    have p2 := Fz.ext (Fz.head (W9.cons.nt ha2)) (E12.trans E13)
    have Ez : Ext A n' ((c', tp [Value.ref a1, .ref a2, .ref a3]) :: n12) := (E79.trans (Ext.refl.cons.cons)).trans (E12.trans E13)
    have sz := sh.ext Ez
    have N0 : Ext A nw n' := ((((E1.trans E2).trans E3).trans E4).trans E6)
    exact hk _ _ c' W12.cons (N0.trans Ez) (Nat.le_succ _) (Nat.le_succ _) (by show ((S.kept ++ [v1]) ++ [v2]).length ≤ _; rw [List.length_append, List.length_append]; exact Nat.le_refl _) (stored_length_le _ _ _) (CellIn.mk a1 a2 a3 q lk 0 0 _ _ _ _ hl (sz.src p1 (fc.ext Ez)) (sz.plc p2 (stored_self _ _ _) (fd.ext Ez)) (f1.ext Ez) (BoxIn.none rfl rfl) (q12.ext E13) ⟨.head _, W12.nt hc'⟩)


noncomputable def dec (n : Int) : Str := Str.ofString (toString n)
noncomputable def txt (k r : Int) : Str := if k = 1 then (if r = 1 then "True" else "False") else if k = 2 then ⟨#[r.toNat]⟩ else dec (seen k r)
noncomputable def wrapS (x : Int) : Int := (x + 2147483648) % 4294967296 - 2147483648
noncomputable def hashed (k r : Int) : Int := wrapS (if k = 1 then (if 1 < r then 1 else r) else if k = 2 then r * 65537 else if k = 9 ∨ k = 10 then r / 4294967296 + r % 4294967296 - 2 * Builtin.bitAnd (r / 4294967296) (r % 4294967296) else seen k r)
theorem wrapS_is (x : Int) : wrapBits x 32 = wrapS x := by
  rw [wrap32_is]
  unfold wrapS
  split <;> omega
theorem seen1 (r : Int) : seen 1 r = r := by rw [kn1.seen, if_neg (by omega)]
theorem seen2 (r : Int) : seen 2 r = r := by rw [kn2.seen, if_neg (by omega)]
theorem stN_id {k : Int} (h1 : k ≠ 8) (h2 : k ≠ 10) (n : Int) : stN k n = n := by unfold stN; rw [if_neg (by omega)]
theorem seen9 (r : Int) : seen 9 r = if 18446744073709551616 ≤ r * 2 then r - 18446744073709551616 else r := by rw [kn9.seen]; simp
theorem seen10 (r : Int) : seen 10 r = r := by rw [kn10.seen, if_neg (by omega)]
theorem seen8 (r : Int) : seen 8 r = r := by rw [kn8.seen, if_neg (by omega)]
theorem stN8 (r : Int) : stN 8 r = if 4294967296 ≤ r * 2 then r - 4294967296 else r := by rw [kn8.stN]; simp
theorem stN10 (r : Int) : stN 10 r = if 18446744073709551616 ≤ r * 2 then r - 18446744073709551616 else r := by rw [kn10.stN]; simp
theorem plain_stored {k r : Int} (h1 : 1 ≤ k) (h2 : k ≤ 11) (h3 : 0 ≤ r) (h4 : r < 2 ^ (lbits k).toNat) : plainNum k (stN k (seen k r)) = seen k r := by
  unfold plainNum
  by_cases e : k = 8
  · subst e
    rw [kn8.pw] at h4
    rw [if_pos rfl, seen8, stN8, and32]
    split <;> omega
  · rw [if_neg e]
    by_cases e' : k = 10
    · subst e'
      rw [kn10.pw] at h4
      rw [if_pos rfl, seen10, stN10, and64]
      split <;> omega
    · rw [if_neg e', stN_id e e']
theorem and_shl (r : Int) (h0 : 0 ≤ r) (h1 : r < 65536) : Builtin.bitAnd r (r * 65536) = 0 := by
  rw [bitAnd_pp h0 (by omega)]
  have e : (r * 65536).toNat = r.toNat <<< 16 := by rw [Nat.shiftLeft_eq]; omega
  rw [e]
  have z : r.toNat &&& r.toNat <<< 16 = 0 := by
    apply Nat.eq_of_testBit_eq
    intro i
    rw [Nat.testBit_and, Nat.testBit_shiftLeft, Nat.zero_testBit]
    by_cases hi : i ≥ 16
    · rw [Nat.testBit_lt_two_pow (Nat.lt_of_lt_of_le (by omega : r.toNat < 2 ^ 16) (Nat.pow_le_pow_right (by decide) hi)), Bool.false_and]
    · simp [hi]
  rw [z]
  rfl
theorem hash_or (n : Int) : -(2 ^ 70) ≤ Builtin.bitOr (Builtin.bitAnd n 65535) (Builtin.bitAnd n 65535 * 2 ^ Int.toNat 16) ∧ Builtin.bitOr (Builtin.bitAnd n 65535) (Builtin.bitAnd n 65535 * 2 ^ Int.toNat 16) ≤ 2 ^ 70 := by
  have a := bitAnd_range n (show (0 : Int) ≤ 65535 by decide)
  generalize Builtin.bitAnd n 65535 = m at a
  rw [bitOr_and, show (2 : Int) ^ Int.toNat 16 = 65536 by decide, and_shl m a.1 (by omega)]
  omega
theorem hash_xor (n m : Int) : -(2 ^ 70) ≤ Builtin.bitXor (Builtin.bitAnd n 4294967295) (Builtin.bitAnd m 4294967295) ∧ Builtin.bitXor (Builtin.bitAnd n 4294967295) (Builtin.bitAnd m 4294967295) ≤ 2 ^ 70 := by
  have a := bitAnd_range n (show (0 : Int) ≤ 4294967295 by decide)
  have b := bitAnd_range m (show (0 : Int) ≤ 4294967295 by decide)
  have c := bitAnd_range (Builtin.bitAnd n 4294967295) b.1
  rw [bitXor_and]
  omega
theorem xor_halves {r n : Int} (h0 : 0 ≤ r) (h1 : r < 18446744073709551616) (e : n = r ∨ n = r - 18446744073709551616) :
    Builtin.bitXor (n % 4294967296) (n / 4294967296 % 4294967296) = r / 4294967296 + r % 4294967296 - 2 * Builtin.bitAnd (r / 4294967296) (r % 4294967296) := by
  have e1 : n % 4294967296 = r % 4294967296 := by omega
  have e2 : n / 4294967296 % 4294967296 = r / 4294967296 := by omega
  rw [e1, e2, bitXor_and, bitAnd_comm (r % 4294967296)]
  omega
theorem seen_cases (k r : Int) : seen k r = r ∨ seen k r = r - 2 ^ (lbits k).toNat := by
  unfold seen
  split
  · exact .inr rfl
  · exact .inl rfl
theorem wrapS_sub (x : Int) : wrapS (x - 4294967296) = wrapS x := by unfold wrapS; omega
/-- the machine's hash of what it keeps -/
theorem hash_mach {k r : Int} (h1 : 1 ≤ k) (h2 : k ≤ 11) (h3 : 0 ≤ r) (h4 : r < 2 ^ (lbits k).toNat) (c1 : k ≠ 1) (c2 : k ≠ 2) (c9 : k ≠ 9) (c10 : k ≠ 10) : wrapBits (stN k (seen k r)) 32 = hashed k r := by
  rw [wrapS_is]
  unfold hashed
  rw [if_neg c1, if_neg c2, if_neg (by omega)]
  by_cases e : k = 8
  · subst e
    rw [seen8, stN8]
    split
    · exact wrapS_sub r
    · rfl
  · rw [stN_id e c10]
theorem hash_src {k r : Int} (c1 : k ≠ 1) (c2 : k ≠ 2) (c9 : k ≠ 9) (c10 : k ≠ 10) : wrapBits (seen k r) 32 = hashed k r := by
  rw [wrapS_is]
  unfold hashed
  rw [if_neg c1, if_neg c2, if_neg (by omega)]
theorem hash_wide {k r n : Int} (c : k = 9 ∨ k = 10) (h3 : 0 ≤ r) (h4 : r < 18446744073709551616) (e : n = r ∨ n = r - 18446744073709551616) : wrapBits (Builtin.bitXor (n % 4294967296) (n / 4294967296 % 4294967296)) 32 = hashed k r := by
  rw [wrapS_is, xor_halves h3 h4 e]
  unfold hashed
  rw [if_neg (by omega), if_neg (by omega), if_pos c]
theorem wide_cases {k r : Int} (c : k = 9 ∨ k = 10) : (seen k r = r ∨ seen k r = r - 18446744073709551616) ∧ (stN k (seen k r) = r ∨ stN k (seen k r) = r - 18446744073709551616) := by
  rcases c with rfl | rfl
  · rw [stN_id (by decide) (by decide), seen9]
    split
    · exact ⟨.inr rfl, .inr rfl⟩
    · exact ⟨.inl rfl, .inl rfl⟩
  · rw [seen10, stN10]
    split
    · exact ⟨.inl rfl, .inr rfl⟩
    · exact ⟨.inl rfl, .inl rfl⟩
theorem wide_pow {k : Int} (c : k = 9 ∨ k = 10) : (2 : Int) ^ (lbits k).toNat = 18446744073709551616 := by
  rcases c with rfl | rfl
  · exact kn9.pw
  · exact kn10.pw
theorem plain_bd (k n : Int) (h : -(2 ^ 70) ≤ n) (h' : n ≤ 2 ^ 70) : -(2 ^ 70) ≤ plainNum k n ∧ plainNum k n ≤ 2 ^ 70 := by
  have a := bitAnd_range n (show (0 : Int) ≤ 4294967295 by decide)
  have b := bitAnd_range n (show (0 : Int) ≤ 18446744073709551615 by decide)
  unfold plainNum
  split
  · omega
  · split <;> omega
theorem stored_bd {k n : Int} (h1 : 1 ≤ k) (h2 : k ≤ 11) (h : -(2 ^ 64) ≤ n ∧ n ≤ 2 ^ 64) : -(2 ^ 66) ≤ stN k n ∧ stN k n ≤ 2 ^ 66 := by
  have := pow_le k h1 h2
  unfold stN
  generalize (2 : Int) ^ (lbits k).toNat = x at *
  split <;> omega


theorem pow2_ne (n : Nat) : (2 : Int) ^ n ≠ 0 := Int.pow_ne_zero (by decide)
theorem endS {k : Value → Led → Prop} {news : Led} {a b : Str} (hk : ∀ t, k (.str b t) news) (e : a = b) : ∀ t, k (.str a t) news := e ▸ hk
theorem Ev.min {w : World} {D : Nat} {c : Cx} {cs : Scope} {mm : Locs} {news : Led} {x : Str} {np pos : Pos} {e1 e2 : PySem.Expr} {a b : Int} (ho : globOk cs x = true) (hn : nsIn (KF w.params) mainGlobals x = some Option.none) (hb : bootBuiltins x = some (.builtin "min")) (hx : x ≠ Str.ofString "__name__")
    (h1 : Ev w D c cs mm news e1 fun t => .int a t) (h2 : Ev w D c cs mm news e2 fun t => .int b t) (hs1 : notStar e1 = true) (hs2 : notStar e2 = true) : Ev w D c cs mm news (.Call (.Name x np) [e1, e2] [] pos) fun t => .int (if b < a then b else a) t :=
  fun O s Q E S q => by
    refine Call_ ((Ev.bltn ho hn hb hx (V := fun _ => .builtin "min") ⟨0, rfl⟩).go O S fun _ g1 tk1 S1 => ?_)
    refine PyProof.Rows.callWith_method1 (first := []) ?_ (notStar_of hs1) (by
      show (backTo pos (starEach [e2] (c.env cs))).any (·.1) = false
      rw [notStar_of hs2]; rfl)
    refine args_cons (h1.go O S1 fun t g2 tk2 S2 => args_cons (h2.go (s := { s with heap := g2, toks := tk2 }) O S2 fun u g3 tk3 S3 => args_nil ?_) (notStar_of hs2)) (notStar_of hs1)
    obtain ⟨m, F, hmm, N⟩ := S3.open'
    exact PyProof.Rows.min_two_N (s := { s with heap := g3, toks := tk3 }) rfl F N fun h' tk F' N' => q _ news h' tk ⟨⟨m, F', hmm⟩, N'⟩ ⟨rfl, _, rfl⟩
theorem c_number_words (w : World) (k n r : Int) (t u : Tok) : CP w 1 582 [.int k t, .int n u] (fun _ => 1 ≤ k ∧ k ≤ 11 ∧ -(2 ^ 70) ≤ n ∧ n ≤ 2 ^ 70 ∧ 0 ≤ r ∧ r < 2 ^ (lbits k).toNat ∧ n = seen k r) (fun t => .str (txt k r) t) := by
  refine cc_of [(Str.ofString "n", .int n u), (Str.ofString "k", .int k t)] (by k_is) (by k_is) (by kernel_rfl) (by k_extra "isb") (by kernel_rfl) (by kernel_rfl) (by kernel_rfl) (by kernel_rfl) (by kernel_rfl) ?_
  intro cx news kz hp hk
  obtain ⟨h1, h2, h3, h4, h5, h6, h7⟩ := hp
  by_cases c1 : k = 1
  · rw [c1, seen1] at h7
    subst h7
    k_extra "w"
    refine endS hk ?_
    unfold txt; rw [if_pos c1]; simp only [decide_eq_true_eq]
  by_cases c2 : k = 2
  · rw [c2, kn2.pw] at h6
    rw [c2, seen2] at h7
    subst h7
    k_extra "w"
    refine endS hk ?_
    unfold txt; rw [if_neg c1, if_pos c2]
  · k_extra "w"
    refine endS hk ?_
    unfold txt dec; rw [if_neg c1, if_neg c2, h7]
theorem c_number_text (w : World) (k n r : Int) (t u : Tok) : CP w 2 1170 [.int k t, .int n u] (fun _ => 1 ≤ k ∧ k ≤ 11 ∧ -(2 ^ 70) ≤ n ∧ n ≤ 2 ^ 70 ∧ 0 ≤ r ∧ r < 2 ^ (lbits k).toNat ∧ (k = 1 → r ≤ 1) ∧ n = stN k (seen k r)) (fun t => .str (txt k r) t) := by
  refine cc_of [(Str.ofString "n", .int n u), (Str.ofString "kind", .int k t)] (by k_is) (by k_is) (by kernel_rfl) (by k_extra "isb") (by kernel_rfl) (by kernel_rfl) (by kernel_rfl) (by kernel_rfl) (by kernel_rfl) ?_
  intro cx news kz hp hk
  obtain ⟨h1, h2, h3, h4, h5, h6, h7, h8⟩ := hp
  have h9 := bitAnd_range n (show (0 : Int) ≤ 65535 by decide)
  have h10 := plain_bd k n h3 h4
  k_with "cc" => first | exact c_plain_number w k n _ _ | fail
  by_cases c1 : k = 1
  · rw [c1, stN_id (by decide) (by decide), seen1] at h8
    subst h8
    have h11 := h7 c1
    k_extra "w"
    · exact endS hk (by unfold txt; rw [if_pos c1, if_neg (by have := dT ‹_›; omega)])
    · exact endS hk (by unfold txt; rw [if_pos c1, if_pos (by have := dF ‹_›; omega)])
  by_cases c2 : k = 2
  · rw [c2, kn2.pw] at h6
    rw [c2, stN_id (by decide) (by decide), seen2] at h8
    subst h8
    k_extra "w"
    refine endS hk ?_
    unfold txt; rw [if_neg c1, if_pos c2, and16, Int.emod_eq_of_lt h5 h6]
  · k_extra "w"
    refine endS hk ?_
    unfold txt dec; rw [if_neg c1, if_neg c2, h8, plain_stored h1 h2 h5 h6]
theorem hash_b {r : Int} (h0 : 0 ≤ r) : (if decide (r = 0) = true then 0 else 1 : Int) = hashed 1 r := by
  unfold hashed wrapS
  rw [if_pos rfl]
  by_cases e : r = 0
  · subst e; rfl
  · rw [if_neg (by simpa using e)]
    split <;> omega
theorem c_number_hash (w : World) (k n r : Int) (t u : Tok) : CP w 3 1177 [.int k t, .int n u] (fun _ => 1 ≤ k ∧ k ≤ 11 ∧ -(2 ^ 70) ≤ n ∧ n ≤ 2 ^ 70 ∧ 0 ≤ r ∧ r < 2 ^ (lbits k).toNat ∧ n = stN k (seen k r)) (fun t => .int (hashed k r) t) := by
  refine cc_of [(Str.ofString "n", .int n u), (Str.ofString "kind", .int k t)] (by k_is) (by k_is) (by kernel_rfl) (by k_extra "isb") (by kernel_rfl) (by kernel_rfl) (by kernel_rfl) (by kernel_rfl) (by kernel_rfl) ?_
  intro cx news kz hp hk
  obtain ⟨h1, h2, h3, h4, h5, h6, h8⟩ := hp
  have h9 := bitAnd_range n (show (0 : Int) ≤ 65535 by decide)
  k_with "cc" => first | exact c_wrap32 w _ _ | fail
  by_cases c1 : k = 1
  · rw [c1, stN_id (by decide) (by decide), seen1] at h8
    subst h8
    k_extra "w"
    exact endI hk (by rw [c1]; exact hash_b h5)
  by_cases c2 : k = 2
  · rw [c2, kn2.pw] at h6
    rw [c2, stN_id (by decide) (by decide), seen2] at h8
    subst h8
    k_extra "w"
    refine endI hk ?_
    rw [c2, and16, Int.emod_eq_of_lt h5 h6, bitOr_and, show (2 : Int) ^ Int.toNat 16 = 65536 by decide, and_shl _ h5 h6, wrapS_is]; unfold hashed; rw [if_neg (by decide), if_pos rfl]; congr 1; omega
  by_cases c9 : k = 9 ∨ k = 10
  · rw [wide_pow c9] at h6
    k_extra "w"
    refine endI hk ?_
    rw [and32, and32, show (2 : Int) ^ Int.toNat 32 = 4294967296 by decide, Int.fdiv_eq_ediv_of_nonneg _ (by decide), h8]; exact hash_wide c9 h5 h6 (wide_cases c9).2
  · have c9' : ¬ k = 9 := fun e => c9 (.inl e)
    have c10' : ¬ k = 10 := fun e => c9 (.inr e)
    k_extra "w"
    refine endI hk ?_
    rw [h8]; exact hash_mach h1 h2 h5 h6 c1 c2 c9' c10'
theorem hashed_end {k n x : Int} (e : x = (if k = 1 then (if 1 < n then 1 else n) else if k = 2 then n * 65537 else if k = 9 ∨ k = 10 then n / 4294967296 + n % 4294967296 - 2 * Builtin.bitAnd (n / 4294967296) (n % 4294967296) else seen k n)) : (x + 2 ^ Int.toNat 31).fmod (2 ^ Int.toNat 32) - 2 ^ Int.toNat 31 = hashed k n := by
  subst e
  rw [show (2 : Int) ^ Int.toNat 32 = 4294967296 by decide, show (2 : Int) ^ Int.toNat 31 = 2147483648 by decide, Int.fmod_eq_emod_of_nonneg _ (show (0 : Int) ≤ 4294967296 by decide)]
  rfl
theorem c_law_hashed (w : World) (k n : Int) (t u : Tok) : CP w 3 1407 [.int k t, .int n u] (fun _ => 1 ≤ k ∧ k ≤ 11 ∧ 0 ≤ n ∧ n < 2 ^ (lbits k).toNat) (fun t => .int (hashed k n) t) := by
  refine cc_of [(Str.ofString "raw", .int n u), (Str.ofString "kind", .int k t)] (by k_is) (by k_is) (by kernel_rfl) (by k_extra "isb") (by kernel_rfl) (by kernel_rfl) (by kernel_rfl) (by kernel_rfl) (by kernel_rfl) ?_
  intro cx news kz hp hk
  obtain ⟨h1, h2, h3, h4⟩ := hp
  have h5 := pow_le k h1 h2
  have h6 : n < 2 ^ 64 := by omega
  have h7 := seen_bd k n h1 h2 h3 h6
  have h8 := bitAnd_range (n.fdiv (2 ^ Int.toNat 32)) (show (0 : Int) ≤ n.fmod (2 ^ Int.toNat 32) from Int.fmod_nonneg_of_pos _ (by decide))
  have h9 : n.fmod (2 ^ Int.toNat 32) < 2 ^ Int.toNat 32 := Int.fmod_lt_of_pos _ (by decide)
  have h10 : (2 : Int) ^ Int.toNat 32 = 4294967296 := by decide
  k_with "cc" => first | exact c_law_seen w _ _ _ _ | fail
  k_with "pre" => first | exact ⟨by omega, by omega, by omega, by omega⟩ | fail
  k_with "nz" => first | exact pow2_ne _ | fail
  k_with "int" => first | exact pow2_ne _ | fail
  k_with "e" => first | (with_reducible show Ev _ _ _ _ _ _ (Expr.Call (Expr.Name (Str.ofString "min") _) _ [] _) _); exact Ev.min (by kernel_rfl) (by k_is) (by boot_by_name) (by decide) (by k_extra "e") (by k_extra "e") (by kernel_rfl) (by kernel_rfl) | fail
  by_cases c1 : k = 1
  · k_extra "w"
    refine endI hk (hashed_end ?_)
    rw [if_pos c1]
  by_cases c2 : k = 2
  · k_extra "w"
    refine endI hk (hashed_end ?_)
    rw [if_neg c1, if_pos c2]
  by_cases c9 : k = 9 ∨ k = 10
  · k_extra "w"
    refine endI hk (hashed_end ?_)
    rw [if_neg c1, if_neg c2, if_pos c9, h10, Int.fmod_eq_emod_of_nonneg _ (show (0 : Int) ≤ 4294967296 by decide), Int.fdiv_eq_ediv_of_nonneg _ (show (0 : Int) ≤ 4294967296 by decide)]
  · have c9' : ¬ k = 9 := fun e => c9 (.inl e)
    have c10' : ¬ k = 10 := fun e => c9 (.inr e)
    k_extra "w"
    refine endI hk (hashed_end ?_)
    rw [if_neg c1, if_neg c2, if_neg c9]
noncomputable def lraw (k z : Int) : Int := ([0, 1, ((2 : Int) ^ (lbits k).toNat).fdiv 2 - 1, ((2 : Int) ^ (lbits k).toNat).fdiv 2, 2 ^ (lbits k).toNat - 1, (z.fdiv 6 * 11400714819323198485).fmod (2 ^ (lbits k).toNat)] : List Int).getD (z.fmod 6).toNat 0
theorem c_law_raw (w : World) (k n : Int) (t u : Tok) : CP w 3 1386 [.int k t, .int n u] (fun _ => 1 ≤ k ∧ k ≤ 11 ∧ 0 ≤ n ∧ n < 2 ^ 40) (fun t => .int (lraw k n) t) := by
  refine cc_of [(Str.ofString "z", .int n u), (Str.ofString "kind", .int k t)] (by k_is) (by k_is) (by kernel_rfl) (by k_extra "isb") (by kernel_rfl) (by kernel_rfl) (by kernel_rfl) (by kernel_rfl) (by kernel_rfl) ?_
  intro cx news kz hp hk
  obtain ⟨h1, h2, h3, h4⟩ := hp
  have hb := lbits_le k h1 h2
  have h5 : 0 ≤ n.fmod 6 ∧ n.fmod 6 < 6 := ⟨Int.fmod_nonneg_of_pos _ (by decide), Int.fmod_lt_of_pos _ (by decide)⟩
  have h6 : n.fdiv 6 = n / 6 := Int.fdiv_eq_ediv_of_nonneg _ (by decide)
  k_with "cc" => first | exact c_law_bits w k _ | fail
  k_with "pre" => first | exact ⟨h1, h2⟩ | fail
  k_with "int" => first | exact pow2_ne _ | fail
  refine Wb.assign (by k_extra "e") (by kernel_rfl) (by exact rfl) ?_
  refine Wb.retG ?_
  refine @Go.ev w 2 cx _ _ _ _ (fun t => .int (lraw k n) t) _ ?_ hk
  refine @Ev.pickL w 2 cx _ _ _ _ _ _ _ _ [0, 1, ((2 : Int) ^ (lbits k).toNat).fdiv 2 - 1, ((2 : Int) ^ (lbits k).toNat).fdiv 2, 2 ^ (lbits k).toNat - 1, (n.fdiv 6 * 11400714819323198485).fmod (2 ^ (lbits k).toNat)] (n.fmod 6) ?_ ?_ h5.1 (by show _ < 6; omega) (by kernel_rfl) (by kernel_rfl)
  · dsimp only [List.map]
    k_extra "es"
  · intro _
    k_extra "e"
theorem lraw_bd (k z : Int) (h1 : 1 ≤ k) (h2 : k ≤ 11) : 0 ≤ lraw k z ∧ lraw k z < 2 ^ (lbits k).toNat := by
  have hW : 2 ≤ (2 : Int) ^ (lbits k).toNat := by
    have := lbits_le k h1 h2
    obtain ⟨m, hm⟩ : ∃ m, (lbits k).toNat = m + 1 := ⟨(lbits k).toNat - 1, by omega⟩
    rw [hm, Int.pow_succ]
    have : (0 : Int) < 2 ^ m := Int.pow_pos (by decide)
    omega
  unfold lraw
  generalize (2 : Int) ^ (lbits k).toNat = W at hW
  have hm := Int.emod_nonneg (z.fdiv 6 * 11400714819323198485) (show W ≠ 0 by omega)
  have hm2 := Int.emod_lt_of_pos (z.fdiv 6 * 11400714819323198485) (show 0 < W by omega)
  rw [Int.fmod_eq_emod_of_nonneg _ (show 0 ≤ W by omega), Int.fdiv_eq_ediv_of_nonneg W (show (0 : Int) ≤ 2 by decide)]
  generalize z.fdiv 6 * 11400714819323198485 % W = X at hm hm2
  generalize (z.fmod 6).toNat = i
  match i with
  | 0 => exact ⟨Int.le_refl _, by show 0 < W; omega⟩
  | 1 => exact ⟨by show (0 : Int) ≤ 1; decide, by show 1 < W; omega⟩
  | 2 => exact ⟨by show 0 ≤ W / 2 - 1; omega, by show W / 2 - 1 < W; omega⟩
  | 3 => exact ⟨by show 0 ≤ W / 2; omega, by show W / 2 < W; omega⟩
  | 4 => exact ⟨by show 0 ≤ W - 1; omega, by show W - 1 < W; omega⟩
  | 5 => exact ⟨hm, hm2⟩
  | n + 6 => exact ⟨Int.le_refl _, by show 0 < W; omega⟩


noncomputable def digs (n : Nat) : List Nat := (Nat.toDigits 10 n).map Char.toNat
theorem digs_lt {n : Nat} (h : n < 10) : digs n = [48 + n] := by
  unfold digs
  rw [Nat.toDigits_of_lt_base h]
  show [n.digitChar.toNat] = _
  obtain h | h | h | h | h | h | h | h | h | h : n = 0 ∨ n = 1 ∨ n = 2 ∨ n = 3 ∨ n = 4 ∨ n = 5 ∨ n = 6 ∨ n = 7 ∨ n = 8 ∨ n = 9 := by omega
  all_goals (subst h; rfl)
theorem digs_ge {n : Nat} (h : 10 ≤ n) : digs n = digs (n / 10) ++ [48 + n % 10] := by
  have a := Nat.toDigits_of_base_le (b := 10) (by decide) h
  have b : digs n = digs (n / 10) ++ digs (n % 10) := by
    unfold digs
    rw [a, List.map_append, Nat.toDigits_of_lt_base (Nat.mod_lt _ (by decide))]
  rw [b, digs_lt (Nat.mod_lt _ (by decide))]
noncomputable def pre (n : Nat) : List Nat := if n < 10 then [] else digs (n / 10)
theorem digs_pre (n : Nat) : digs n = pre n ++ [48 + n % 10] := by
  unfold pre
  split
  · rename_i h
    rw [digs_lt h, Nat.mod_eq_of_lt h]
    rfl
  · exact digs_ge (by omega)
theorem digs_len : ∀ (d n : Nat), n < 10 ^ (d + 1) → (digs n).length ≤ d + 1
  | 0, n, h => by rw [digs_lt (by simpa using h)]; exact Nat.le_refl _
  | d + 1, n, h => by
    by_cases e : n < 10
    · rw [digs_lt e]
      exact Nat.le_add_left _ _
    · rw [digs_ge (by omega), List.length_append]
      have := digs_len d (n / 10) (by
        rw [Nat.pow_succ] at h
        omega)
      simp only [List.length_cons, List.length_nil]
      omega
theorem dec_nat (n : Nat) : dec (n : Int) = ⟨(digs n).toArray⟩ := by
  have := KIN.signs_num n
  unfold dec digs
  rw [← this, Array.toArray_toList]
noncomputable def Dig (m : Int) (x : Str) (n : Int) : Prop := digs n.toNat = pre m.toNat ++ x.cps.toList
theorem dig_item {k : Int} (h0 : 0 ≤ k) (h1 : k < 10) : Txt.item (Str.ofString "0123456789") k = ⟨#[48 + k.toNat]⟩ := by
  obtain h | h | h | h | h | h | h | h | h | h : k = 0 ∨ k = 1 ∨ k = 2 ∨ k = 3 ∨ k = 4 ∨ k = 5 ∨ k = 6 ∨ k = 7 ∨ k = 8 ∨ k = 9 := by omega
  all_goals (subst h; decide)
theorem dig_start {n : Int} (h : 0 ≤ n) : Dig n (Txt.item (Str.ofString "0123456789") (n.fmod 10)) n := by
  rw [Int.fmod_eq_emod_of_nonneg _ (by decide), dig_item (by omega) (by omega)]
  unfold Dig
  rw [digs_pre n.toNat]
  congr 2
  show 48 + n.toNat % 10 = 48 + (n % 10).toNat
  omega
theorem dig_step {m n : Int} {x : Str} (h : 10 ≤ m) (d : Dig m x n) : Dig (m.fdiv 10) (Txt.item (Str.ofString "0123456789") ((m.fdiv 10).fmod 10) ++ x) n := by
  rw [Int.fmod_eq_emod_of_nonneg _ (by decide), Int.fdiv_eq_ediv_of_nonneg _ (by decide), dig_item (by omega) (by omega)]
  unfold Dig at d ⊢
  rw [d]
  have e : pre m.toNat = pre (m / 10).toNat ++ [48 + (m / 10 % 10).toNat] := by
    unfold pre
    rw [if_neg (by omega), show m.toNat / 10 = (m / 10).toNat by omega, digs_pre]
    unfold pre
    congr 2
    omega
  rw [e]
  show _ = pre (m / 10).toNat ++ (#[48 + (m / 10 % 10).toNat] ++ x.cps).toList
  rw [Array.toList_append, List.append_assoc]
theorem dig_len {m n : Int} {x : Str} (h0 : 0 ≤ n) (h : n ≤ 2 ^ 70) (d : Dig m x n) : x.length ≤ 22 := by
  have a := digs_len 21 n.toNat (by
    have : (n.toNat : Int) = n := by omega
    have b : (2 : Int) ^ 70 < 10 ^ 22 := by decide
    have : n < 10 ^ 22 := by omega
    omega)
  unfold Dig at d
  rw [d, List.length_append, Array.length_toList] at a
  exact Nat.le_trans (Nat.le_add_left _ _) a
theorem dig_end {m n : Int} {x : Str} (h0 : 0 ≤ n) (h : m.toNat < 10) (d : Dig m x n) : x = dec n := by
  unfold Dig pre at d
  rw [if_pos h, List.nil_append] at d
  obtain ⟨k, rfl⟩ := Int.eq_ofNat_of_zero_le h0
  rw [dec_nat]
  rw [Int.toNat_natCast] at d
  rw [d, Array.toArray_toList]
theorem dec_len {n : Int} (h0 : 0 ≤ n) (h : n ≤ 2 ^ 70) : (dec n).length ≤ 22 := by
  have a := digs_len 21 n.toNat (by
    have : (n.toNat : Int) = n := by omega
    have b : (2 : Int) ^ 70 < 10 ^ 22 := by decide
    have : n < 10 ^ 22 := by omega
    omega)
  obtain ⟨k, rfl⟩ := Int.eq_ofNat_of_zero_le h0
  rw [dec_nat]
  rw [Int.toNat_natCast] at a
  show (digs k).toArray.size ≤ 22
  rw [List.size_toArray]
  exact a
theorem str_ext {x y : Str} (h : x.cps.toList = y.cps.toList) : x = y := by
  cases x; cases y
  simp only [Str.mk.injEq]
  exact Array.toList_inj.mp h
theorem dec_neg {n : Int} (h : n < 0) : Str.ofString "-" ++ dec (-n) = dec n := by
  obtain ⟨m, rfl⟩ : ∃ m : Nat, n = -((m + 1 : Nat) : Int) := ⟨(-n - 1).toNat, by omega⟩
  rw [Int.neg_neg]
  unfold dec
  show _ = Str.ofString (Int.repr (Int.negSucc m))
  show Str.ofString "-" ++ Str.ofString (Nat.repr (m + 1)) = Str.ofString ("-" ++ Nat.repr (m + 1))
  refine str_ext ?_
  show ((Str.ofString "-").cps ++ (Str.ofString (Nat.repr (m + 1))).cps).toList = _
  rw [Array.toList_append, signs_ofString, signs_ofString, signs_ofString, String.toList_append, List.map_append]
section
variable {w : World} {D : Nat} {c : Cx} {cs : Scope} {mm : Locs} {news : Led}
theorem Ev.strAt {x : Str} {kk : Nat} {p pos : Pos} {slice : PySem.Expr} {i : Int} {n : Nat} (hs : Ev w D c cs mm news slice fun t => .int i t) (hl : x.length = n) (h0 : 0 ≤ i) (h1 : i < (n : Int)) (hz : decide (n ≤ 16777216) = true) (hn : notSlice slice = true) :
    Ev w D c cs mm news (.Subscript (.Constant (.str x) kk p) slice pos) fun t => .str (Txt.item x i) t :=
  fun O s Q E S q => by
    refine Subscript_ (Ev.str.go O S fun t g1 tk1 S1 => hs.go O S1 fun u g2 tk2 S2 => ?_)
    exact KXi.item (s := { s with heap := g2, toks := tk2 }) hl (by omega) h1 (of_decide_eq_true hz) (fun _ => q _ news g2 _ S2 ⟨rfl, .str⟩) (subscripted_int hn) (fun _ => rfl)
theorem Ev.addS {l r : PySem.Expr} {pos : Pos} {x y : Str} (hl : Ev w D c cs mm news l fun t => .str x t) (hr : Ev w D c cs mm news r fun t => .str y t) (hz : x.length + y.length ≤ sizeLine) : Ev w D c cs mm news (.BinOp l .Add r pos) fun t => .str (x ++ y) t :=
  hl.bin hr fun _ _ => Go.raw fun _ s _ _ m F hm N q => PyProof.Rows.add_str (fun t' tk => q _ news s.heap tk m F hm N ⟨rfl, .str⟩) hz
end
theorem item_one {i : Int} (h0 : 0 ≤ i) (h1 : i < 10) : (Txt.item (Str.ofString "0123456789") i).length = 1 := by rw [dig_item h0 h1]; rfl
theorem c_digs (w : World) (n : Int) (t : Tok) : CP w 1 1393 [.int n t] (fun _ => 0 ≤ n ∧ n ≤ 2 ^ 70) (fun t => .str (dec n) t) := by
  refine cc_of [(Str.ofString "n", .int n t)] (by k_is) (by k_is) (by kernel_rfl) (by k_extra "isb") (by kernel_rfl) (by kernel_rfl) (by kernel_rfl) (by kernel_rfl) (by kernel_rfl) ?_
  intro cx news kz hp hk
  obtain ⟨h1, h2⟩ := hp
  have h3 : 0 ≤ n.fmod 10 ∧ n.fmod 10 < 10 := ⟨Int.fmod_nonneg_of_pos _ (by decide), Int.fmod_lt_of_pos _ (by decide)⟩
  refine Wb.ifF0 (by k_extra "t") (by k_extra "bf") ?_
  refine Wb.assign (V := fun t => .str (Txt.item (Str.ofString "0123456789") (n.fmod 10)) t) (Ev.strAt (n := 10) (by k_extra "e") (by decide) h3.1 h3.2 (by decide) (by kernel_rfl)) (by kernel_rfl) (by exact rfl) ?_
  refine Wb.locs' (mm' := [(Str.ofString "n", fun t => .int n t), (Str.ofString "text", fun t => .str (Txt.item (Str.ofString "0123456789") (n.fmod 10)) t)]) (by k_extra "loc") ?_
  refine Wb.while (fun M m' n' => n' = news ∧ ∃ m x, M = Int.toNat m ∧ 0 ≤ m ∧ m ≤ n ∧ x.length ≤ 22 ∧ Dig m x n ∧ m' = [(Str.ofString "n", fun t => .int m t), (Str.ofString "text", fun t => .str x t)]) n.toNat ⟨rfl, n, _, rfl, h1, Int.le_refl _, dig_len h1 h2 (dig_start h1), dig_start h1, rfl⟩ ?_
  rintro M m' n' ⟨rfl, m, x, rfl, b1, b2, b3, b4, rfl⟩
  refine ⟨_, by k_extra "t", ?_, ?_⟩
  · intro hb
    have hb' := dT hb
    have e := Int.fdiv_eq_ediv_of_nonneg m (show (0 : Int) ≤ 10 by decide)
    have h4 : 0 ≤ (m.fdiv 10).fmod 10 ∧ (m.fdiv 10).fmod 10 < 10 := ⟨Int.fmod_nonneg_of_pos _ (by decide), Int.fmod_lt_of_pos _ (by decide)⟩
    have d := dig_step (by omega) b4
    refine Wb.assign (V := fun t => .int (m.fdiv 10) t) (by k_extra "e") (by kernel_rfl) (by exact rfl) ?_
    refine Wb.assign (V := fun t => .str (Txt.item (Str.ofString "0123456789") ((m.fdiv 10).fmod 10) ++ x) t) (Ev.addS (Ev.strAt (n := 10) (by k_extra "e") (by decide) h4.1 h4.2 (by decide) (by kernel_rfl)) (by k_extra "e") (by rw [item_one h4.1 h4.2, sizeLine_eq]; omega)) (by kernel_rfl) (by exact rfl) ?_
    exact Wb.locs' (mm' := [(Str.ofString "n", fun t => .int (m.fdiv 10) t), (Str.ofString "text", fun t => .str (Txt.item (Str.ofString "0123456789") ((m.fdiv 10).fmod 10) ++ x) t)]) (by k_extra "loc") (Wb.nil ⟨_, by omega, rfl, m.fdiv 10, _, rfl, by omega, by omega, dig_len h1 h2 d, d, rfl⟩)
  · intro hb
    have hb' := dF hb
    exact Wb.ret (by k_extra "e") (endS hk (dig_end h1 (by omega) b4))
theorem c_digs_neg (w : World) (n : Int) (t : Tok) : CP w 2 1393 [.int n t] (fun _ => n < 0 ∧ -(2 ^ 70) ≤ n) (fun t => .str (dec n) t) := by
  refine cc_of [(Str.ofString "n", .int n t)] (by k_is) (by k_is) (by kernel_rfl) (by k_extra "isb") (by kernel_rfl) (by kernel_rfl) (by kernel_rfl) (by kernel_rfl) (by kernel_rfl) ?_
  intro cx news kz hp hk
  obtain ⟨h1, h2⟩ := hp
  have h3 := dec_len (n := -n) (by omega) (by omega)
  k_with "cc" => first | exact c_digs w (-n) _ | fail
  k_with "pre" => first | exact ⟨by omega, by omega⟩ | fail
  refine Wb.ifT (by k_extra "t") (by k_extra "bt") ?_
  exact Wb.ret (Ev.addS Ev.str (by k_extra "e") (by rw [sizeLine_eq]; exact Nat.le_trans (Nat.add_le_add_left h3 _) (by decide))) (endS hk (dec_neg h1))
theorem c_law_digits (w : World) (n : Int) (t : Tok) : CP w 2 1393 [.int n t] (fun _ => -(2 ^ 70) ≤ n ∧ n ≤ 2 ^ 70) (fun t => .str (dec n) t) := by
  by_cases c : n < 0
  · exact (c_digs_neg w n t).imp (fun _ h => ⟨c, h.1⟩) fun _ _ _ r => r
  · exact ((c_digs w n t).up (by decide)).imp (fun _ h => ⟨by omega, h.2⟩) fun _ _ _ r => r
theorem c_law_shown (w : World) (k r : Int) (t u : Tok) : CP w 3 1400 [.int k t, .int r u] (fun _ => 1 ≤ k ∧ k ≤ 11 ∧ 0 ≤ r ∧ r < 2 ^ (lbits k).toNat ∧ (k = 1 → r ≤ 1)) (fun t => .str (txt k r) t) := by
  refine cc_of [(Str.ofString "raw", .int r u), (Str.ofString "kind", .int k t)] (by k_is) (by k_is) (by kernel_rfl) (by k_extra "isb") (by kernel_rfl) (by kernel_rfl) (by kernel_rfl) (by kernel_rfl) (by kernel_rfl) ?_
  intro cx news kz hp hk
  obtain ⟨h1, h2, h3, h4, h5⟩ := hp
  have h6 := pow_le k h1 h2
  have h7 : r < 2 ^ 64 := by omega
  have h8 := seen_bd k r h1 h2 h3 h7
  k_with "cc" => first | exact c_law_digits w _ _ | exact c_law_seen w _ _ _ _ | fail
  k_with "pre" => first | exact ⟨by omega, by omega, by omega, by omega⟩ | exact ⟨by omega, by omega⟩ | fail
  by_cases c1 : k = 1
  · have h9 := h5 c1
    obtain e | e : r = 0 ∨ r = 1 := by omega
    · subst e
      k_extra "w"
      refine endS hk ?_
      unfold txt; rw [if_pos c1, if_neg (by decide)]
    · subst e
      k_extra "w"
      refine endS hk ?_
      unfold txt; rw [if_pos c1, if_pos rfl]
  by_cases c2 : k = 2
  · rw [c2, kn2.pw] at h4
    k_extra "w"
    refine endS hk ?_
    unfold txt; rw [if_neg c1, if_pos c2]
  · k_extra "w"
    refine endS hk ?_
    unfold txt dec; rw [if_neg c1, if_neg c2]


theorem item_end {w : World} {A : Ad} {S : St} {news L' : List (Addr × Obj)} (hW : Wd w A S news) (r : TR) {n' : Nat} (e : Ext A news L')
    (m6 : (A.a 6, dictOf S.hes (A.n 6)) ∈ L') (m7 : (A.a 7, listOf (thv S.tl).toArray S.thn) ∈ L') (m8 : (A.a 8, S.hat) ∈ L') (m11 : (A.a 11, S.st) ∈ L') (m16 : (A.a 16, listOf (Value.none :: thv S.il ++ [Value.ref r.a]).toArray n') ∈ L') (m19 : (A.a 19, listOf S.kept.toArray S.kn) ∈ L')
    (hr : RecIn A 361 L' r) : Wd w A { S with il := S.il ++ [r], itn := n' } L' :=
  { hW with
    mem := fun i o ho => by
      by_cases hi : i ∈ [6, 7, 8, 11, 16, 19]
      · simp only [List.mem_cons, List.not_mem_nil, or_false] at hi
        rcases hi with rfl | rfl | rfl | rfl | rfl | rfl <;> cases ho
        · exact m6
        · exact m7
        · exact m8
        · exact m11
        · simpa [thv] using m16
        · exact m19
      · have hlt := tab_lt ho
        exact e _ (hW.mem i o ((tab_fix i hi).symm.trans ho)) (hW.nti hlt hi)
    rows := fun i hi => by obtain ⟨r, t, u, h1, h2⟩ := hW.rows i hi; exact ⟨r, t, u, h1, h2.ext e⟩
    cores := fun i hi => by obtain ⟨y, d, es, n, t, h1, h2, h3, h4⟩ := hW.cores i hi; exact ⟨y, d, es, n, t, h1, h2.ext e, h3.ext e, h4⟩
    things := fun i q hq => (hW.things i q hq).ext e
    items := fun i q hq => by
      by_cases hi : i < S.il.length
      · rw [List.getElem?_append_left hi] at hq
        exact (hW.items i q hq).ext e
      · rw [List.getElem?_append_right (by omega)] at hq
        cases e0 : i - S.il.length with
        | zero =>
          rw [e0] at hq
          have hq' : r = q := Option.some.inj hq
          subst hq'
          exact hr
        | succ k => rw [e0] at hq; cases hq
    kepts := fun v hv => (hW.kepts v hv).ext e }
theorem at_last2 {l : List TR} {x : Addr} : (Value.none :: thv l ++ [Value.ref x])[(((l.length + 1 : Nat) : Nat) : Int).toNat]? = some (.ref x) := by
  rw [Int.toNat_natCast, List.cons_append, List.getElem?_cons_succ, List.getElem?_append_right (by rw [thv_len]; exact Nat.le_refl _), thv_len, Nat.sub_self]
  rfl
theorem words_end {w : World} {A : Ad} {S : St} {news n1 : List (Addr × Obj)} {l x d : Addr} {es es' : List DictEntry} {n n' : Nat} {u : Tok} {v : Value} (hW : Wd w A S news) (l1 : ∀ p ∈ news, p.1 < l) (e : Ext A ((l, listOf ([] : List Value).toArray 0) :: news) n1) (ix : (x, instObj 361 d) ∈ n1) (xd : x ≠ d) (nx : NA A x) (nd : NA A d)
    (hd : ∀ p ∈ (l, listOf ([] : List Value).toArray 0) :: news, p.1 ≠ d) (m6 : (A.a 6, dictOf S.hes (A.n 6)) ∈ n1) (m7 : (A.a 7, listOf (thv S.tl).toArray S.thn) ∈ n1) (m8 : (A.a 8, S.hat) ∈ n1) (m11 : (A.a 11, S.st) ∈ n1) (m16 : (A.a 16, listOf (Value.none :: thv S.il ++ [Value.ref x]).toArray n') ∈ n1) (m19 : (A.a 19, listOf S.kept.toArray S.kn) ∈ n1)
    (gk : getL (Str.ofString "kind") es = some (some (.int 13 u))) (gs : getL (Str.ofString "slots") es = some (some (.ref l))) (g2 : getL (Str.ofString "text") es' = some (some v)) (g3 : ∀ y, y ≠ Str.ofString "text" → getL y es' = getL y es) :
    Wd w A { S with il := S.il ++ [⟨x, d, es', n, 13, l, [], 0⟩], itn := n' } (foc d (dictOf es' n) n1) ∧ Ext A news (foc d (dictOf es' n) n1) ∧ Fz A (foc d (dictOf es' n) n1) x (instObj 361 d) ∧ Fz A (foc d (dictOf es' n) n1) d (dictOf es' n) := by
  have e1 : Ext A ((l, listOf ([] : List Value).toArray 0) :: news) (foc d (dictOf es' n) n1) := Ext.focNew e hd
  have e2 : Ext A news (foc d (dictOf es' n) n1) := (Ext.cons Ext.refl).trans e1
  have zx : Fz A (foc d (dictOf es' n) n1) x (instObj 361 d) := ⟨List.mem_cons_of_mem _ (mem_foc ix xd), nx.nt⟩
  have zd : Fz A (foc d (dictOf es' n) n1) d (dictOf es' n) := ⟨.head _, nd.nt⟩
  have zl : Fz A (foc d (dictOf es' n) n1) l (listOf ([] : List Value).toArray 0) := ⟨e1 _ (.head _) (hW.nt l1), hW.nt l1⟩
  have k (j : Nat) (hj : j < 20) : A.a j ≠ d := fun q => nd j hj q.symm
  refine ⟨item_end hW _ e2 (List.mem_cons_of_mem _ (mem_foc m6 (k 6 (by decide)))) (List.mem_cons_of_mem _ (mem_foc m7 (k 7 (by decide)))) (List.mem_cons_of_mem _ (mem_foc m8 (k 8 (by decide)))) (List.mem_cons_of_mem _ (mem_foc m11 (k 11 (by decide)))) (List.mem_cons_of_mem _ (mem_foc m16 (k 16 (by decide)))) (List.mem_cons_of_mem _ (mem_foc m19 (k 19 (by decide)))) ⟨zx, zd, zl, ⟨u, (g3 _ (by decide)).trans gk⟩, (g3 _ (by decide)).trans gs, Nat.zero_le _⟩, e2, zx, zd⟩
theorem c_new_words (w : World) (A : Ad) (S : St) (x : Str) (t : Tok) : CC w 5 561 [.ref (A.a 14), .str x t] (fun news => Wd w A S news ∧ S.il.length ≤ 10000) (fun news k' => ∀ t u u' r n' news', Wd w A { S with il := S.il ++ [r], itn := n' } news' → Ext A news news' → r.kind = 13 → getL (Str.ofString "kind") r.es = some (some (.int 13 u')) → Fz A news' r.a (instObj 361 r.d) → Fz A news' r.d (dictOf r.es r.n) → getL (Str.ofString "text") r.es = some (some (.str x u)) → k' (.int (S.il.length + 1 : Nat) t) news') := by
  refine cc_of [(Str.ofString "text", .str x t), (Str.ofString "ev", .ref (A.a 14))] (by k_is) (by k_is) (by kernel_rfl) (by k_extra "isb") (by kernel_rfl) (by kernel_rfl) (by kernel_rfl) (by kernel_rfl) (by kernel_rfl) ?_
  intro cx news kz hp hk
  obtain ⟨hW, hz⟩ := hp
  have a1 := hW.e_things
  refine Wb.assignG (Go.callA (by kernel_rfl) (by k_is) (by k_is) (by kernel_rfl) (EvA.cons (V := fun _ => .ref (A.a 14)) (by k_extra "e") (by kernel_rfl) fun _ => EvA.cons (by k_extra "e") (by kernel_rfl) fun t1 => EvA.go (Go.list EvL.nil (by kernel_rfl) fun l τ hl => EvA.nil (Go.ctr (c_new_raw w A S 13 l t1) (by decide) ⟨hW.cons, hz⟩ (by k_extra "mono") ?_)) (by kernel_rfl))) (by kernel_rfl) (by exact rfl)
  intro t2 u1 x1 d es n n' n1 s l1 l2 m1 m2 g1 g2 g3 z
  refine ⟨fun t => .int (S.il.length + 1 : Nat) t, ⟨_, rfl⟩, ?_⟩
  have l1' : ∀ p ∈ news, p.1 < d := fun p hp => l1 p (.tail _ hp)
  have nx : NA A x1 := hW.na fun p hp => Nat.lt_trans (l1' p hp) l2
  have nd : NA A d := hW.na l1'
  have hxd : x1 ≠ d := Nat.ne_of_gt l2
  have M : ∀ {j o}, tab A S j = some o → j < 20 → j ≠ 16 → (A.a j, o) ∈ foc (A.a 16) (listOf (Value.none :: thv S.il ++ [Value.ref x1]).toArray n') n1 := fun h1 h2 h3 => .tail _ (mem_foc (s _ (.tail _ (hW.mem _ _ h1))) (hW.ne h2 (by decide) h3))
  have mx : (x1, instObj 361 d) ∈ foc (A.a 16) (listOf (Value.none :: thv S.il ++ [Value.ref x1]).toArray n') n1 := .tail _ (mem_foc m1 (nx.at (by decide)))
  have md : (d, dictOf es n) ∈ foc (A.a 16) (listOf (Value.none :: thv S.il ++ [Value.ref x1]).toArray n') n1 := .tail _ (mem_foc m2 (nd.at (by decide)))
  have e0 : Ext A ((l, listOf ([] : List Value).toArray 0) :: news) (foc (A.a 16) (listOf (Value.none :: thv S.il ++ [Value.ref x1]).toArray n') n1) := Ext.foc (fun p hp _ => s p hp) (by decide)
  refine Wb.setAttr (by k_extra "e") (Ev.itm (Ev.attr (by k_extra "e") (M (j := 14) rfl (by decide) (by decide)) (M (j := 15) rfl (by decide) (by decide)) a1 ⟨0, rfl⟩ (by k_extra "at") (by kernel_rfl) (by kernel_rfl)) (by k_extra "e") (SubD.lst (.head _) (by omega) (by omega) at_last2 ⟨0, rfl⟩) (by kernel_rfl)) mx md g3 ⟨by k_is, by k_is, by k_is, by k_is⟩ z (by exact rfl) ?_
  intro t3 es' q1 q2 q3
  obtain ⟨w1, w2, w3, w4⟩ := words_end hW hl e0 mx hxd nx nd (fun p hp => Nat.ne_of_lt (l1 p hp)) (M (j := 6) rfl (by decide) (by decide)) (M (j := 7) rfl (by decide) (by decide)) (M (j := 8) rfl (by decide) (by decide)) (M (j := 11) rfl (by decide) (by decide)) (.head _) (M (j := 19) rfl (by decide) (by decide)) g1 g2 q2 q3
  exact Wb.ret (by k_extra "e") fun t => hk t _ _ _ _ _ w1 w2 rfl ((q3 _ (by decide)).trans g1) w3 w4 q2


structure NumIn (w : World) (A : Ad) (S : St) (news : List (Addr × Obj)) (t2 : Addr) (k r : Int) : Prop where
  ex : ∃ (q : Addr) (lk : Int) (u1 u2 : Tok), LK k lk ∧ Plc A S news t2 q ∧ Fz A news q (tp [.int (stTag k) u1, .int (stN lk (seen lk r)) u2])
theorem c_this_num (w : World) (A : Ad) (S : St) (tv t2 : Addr) (k r : Int) (t u : Tok) : CP w 8 1184 [.ref (A.a 9), .ref tv, .int k t] (fun news => Wd w A S news ∧ Fz A news tv (tp [.int 6 u, .ref t2]) ∧ NumIn w A S news t2 k r ∧ 1 ≤ k ∧ k ≤ 11 ∧ 0 ≤ r ∧ r < 2 ^ (lbits k).toNat ∧ S.tl.length ≤ 9000) (fun t => .int (stN k (seen k r)) t) := by
  refine cc_of [(Str.ofString "kind", .int k t), (Str.ofString "value", .ref tv), (Str.ofString "m", .ref (A.a 9))] (by k_is) (by k_is) (by kernel_rfl) (by k_extra "isb") (by kernel_rfl) (by kernel_rfl) (by kernel_rfl) (by kernel_rfl) (by kernel_rfl) ?_
  intro cx news kz hp hk
  obtain ⟨hW, h1, ⟨q, lk, u1, u2, hl, hP, h2⟩, h3, h4, h5, h6, hz⟩ := hp
  have a1 := hW.m_places
  have a2 := hW.m_kt
  have b0 := pow_le k h3 h4
  obtain ⟨b1, b2⟩ := hl.le h3 h4
  have b3 := stored_bd b1 b2 (seen_bd lk r b1 b2 h5 (by omega))
  have b4 := cut_stored hl h3 h4 h5 h6
  have g1 := h1.1
  k_with "cc" => first | exact c_read_place w A S t2 q | exact c_fits w (A.a 0) q k (stN lk (seen lk r)) _ u1 u2 | fail
  k_with "pre" => first | exact ⟨hW, hP, by omega⟩ | exact ⟨h3, h4, h2.1⟩ | fail
  k_extra "w"
  refine Wb.ret (V := fun t => .int (cutTo k (stN lk (seen lk r))) t) (Ev.of (Go.item (Go.callT (by kernel_rfl) (by k_is) (by k_is) (by k_extra "es") (fun τ => c_store_as w (A.a 0) q k (stN lk (seen lk r)) _ u1 u2) (by kernel_rfl) (by decide) (fun _ => by exact ⟨h3, h4, h2.1⟩) (fun _ => by intro _ _ h g v n p; exact h _ _ (g v n p)) ?_) (by kernel_rfl))) (endI hk b4)
  rintro τ v' news' ⟨a, t, u, rfl, rfl, l⟩
  exact ⟨a, _, 1, 1, _, rfl, .head _, Ev.int, rfl, by kernel_rfl, rfl, fun p hp => .tail _ hp, .int⟩
theorem c_this_number (w : World) (A : Ad) (S : St) (tv t2 : Addr) (k r : Int) (t u : Tok) : CC w 8 1184 [.ref (A.a 9), .ref tv, .int k t]
    (fun news => Wd w A S news ∧ Fz A news tv (tp [.int 6 u, .ref t2]) ∧ NumIn w A S news t2 k r ∧ 1 ≤ k ∧ k ≤ 11 ∧ 0 ≤ r ∧ r < 2 ^ (lbits k).toNat ∧ S.tl.length ≤ 9000)
    (fun news k' => ∀ t news', Wd w A S news' → Ext A news news' → k' (.int (stN k (seen k r)) t) news') :=
  CC.imp (c_this_num w A S tv t2 k r t u) (fun _ h => h) fun news k h r t => r t news h.1 Ext.refl
theorem c_new_hash0 (w : World) (k : Int) (t : Tok) : CC w (0 + 2) 1234 [.int k t] (fun _ => True) (fun news kk => ∀ (x d : Addr) es n u news', (∀ p ∈ news, p ∈ news') → (∀ p ∈ news, @LT.lt Nat _ p.1 d) → @LT.lt Nat _ d x → (x, instObj 1234 d) ∈ news' → (d, dictOf es n) ∈ news' → getL (Str.ofString "kind") es = some (some (.int k u)) → getL (Str.ofString "call") es = some none → kk (.ref x) news') := by
  refine cc_cls (fun x => [(Str.ofString "kind", .int k t), (Str.ofString "self", .ref x)]) (by k_is) (by k_is) (by k_is) (by k_is) (by k_is) (by intro _; kernel_rfl) (by intro _; k_extra "isb") (by intro _; kernel_rfl) (by kernel_rfl) (by kernel_rfl) (by kernel_rfl) (by kernel_rfl) ?_
  intro cx news kz x dx hp hk lx ly
  have qC : ClsOk (KF w.params) 1234 := ⟨by k_is, by k_is, by k_is⟩
  k_extra "wi"
  intro n' B
  obtain ⟨es, en, B1, B2, B3⟩ := B.ex
  obtain ⟨_, g1⟩ := B2 (Str.ofString "kind") _ rfl
  exact hk x dx es en _ n' B1.sub B1.lt B1.dx B1.inst B1.dict g1 (B3 _ (by kernel_rfl))
theorem c_new_hash (w : World) (A : Ad) (S : St) (k : Int) (t : Tok) : CC w 2 1234 [.int k t]
    (fun news => Wd w A S news)
    (fun news k' => ∀ x d es n u news', Wd w A S news' → Ext A news news' → Fz A news' x (instObj 1234 d) → Fz A news' d (dictOf es n) → getL (Str.ofString "kind") es = some (some (.int k u)) → getL (Str.ofString "call") es = some none → k' (.ref x) news') :=
  (c_new_hash0 w k t).imp (fun _ _ => trivial) fun _ _ hW r x d es n u news' s l1 l2 i1 i2 g1 g2 => r x d es n u news' (hW.keep s) (fun p hp _ => s p hp) ⟨i1, hW.nt2 l1 l2⟩ ⟨i2, hW.nt l1⟩ g1 g2
theorem c_new_eq0 (w : World) (k : Int) (t : Tok) : CC w (0 + 2) 1208 [.int k t] (fun _ => True) (fun news kk => ∀ (x d : Addr) es n u news', (∀ p ∈ news, p ∈ news') → (∀ p ∈ news, @LT.lt Nat _ p.1 d) → @LT.lt Nat _ d x → (x, instObj 1208 d) ∈ news' → (d, dictOf es n) ∈ news' → getL (Str.ofString "kind") es = some (some (.int k u)) → getL (Str.ofString "call") es = some none → kk (.ref x) news') := by
  refine cc_cls (fun x => [(Str.ofString "kind", .int k t), (Str.ofString "self", .ref x)]) (by k_is) (by k_is) (by k_is) (by k_is) (by k_is) (by intro _; kernel_rfl) (by intro _; k_extra "isb") (by intro _; kernel_rfl) (by kernel_rfl) (by kernel_rfl) (by kernel_rfl) (by kernel_rfl) ?_
  intro cx news kz x dx hp hk lx ly
  have qC : ClsOk (KF w.params) 1208 := ⟨by k_is, by k_is, by k_is⟩
  k_extra "wi"
  intro n' B
  obtain ⟨es, en, B1, B2, B3⟩ := B.ex
  obtain ⟨_, g1⟩ := B2 (Str.ofString "kind") _ rfl
  exact hk x dx es en _ n' B1.sub B1.lt B1.dx B1.inst B1.dict g1 (B3 _ (by kernel_rfl))
theorem c_new_eq (w : World) (A : Ad) (S : St) (k : Int) (t : Tok) : CC w 2 1208 [.int k t]
    (fun news => Wd w A S news)
    (fun news k' => ∀ x d es n u news', Wd w A S news' → Ext A news news' → Fz A news' x (instObj 1208 d) → Fz A news' d (dictOf es n) → getL (Str.ofString "kind") es = some (some (.int k u)) → getL (Str.ofString "call") es = some none → k' (.ref x) news') :=
  (c_new_eq0 w k t).imp (fun _ _ => trivial) fun _ _ hW r x d es n u news' s l1 l2 i1 i2 g1 g2 => r x d es n u news' (hW.keep s) (fun p hp _ => s p hp) ⟨i1, hW.nt2 l1 l2⟩ ⟨i2, hW.nt l1⟩ g1 g2
theorem c_prim_hash (w : World) (A : Ad) (S : St) (x d args p1 t2 : Addr) (es : List DictEntry) (n m : Nat) (k r : Int) (t u : Tok) : CC w 10 1231 [.ref x, .ref (A.a 9), .none, .ref args] (fun news => Wd w A S news ∧ (x, instObj 1234 d) ∈ news ∧ (d, dictOf es n) ∈ news ∧ getL (Str.ofString "kind") es = some (some (.int k t)) ∧ (args, listOf [Value.ref p1].toArray m) ∈ news ∧ Fz A news p1 (tp [.int 6 u, .ref t2]) ∧ NumIn w A S news t2 k r ∧ 1 ≤ k ∧ k ≤ 11 ∧ 0 ≤ r ∧ r < 2 ^ (lbits k).toNat ∧ S.tl.length ≤ 9000) (fun news k' => ∀ a t u, (∀ p ∈ news, p.1 < a) → k' (.ref a) ((a, tp [.int 1 t, .int (hashed k r) u]) :: news)) := by
  refine cc_of [(Str.ofString "args", .ref args), (Str.ofString "f", .none), (Str.ofString "m", .ref (A.a 9)), (Str.ofString "self", .ref x)] (by k_is) (by k_is) (by kernel_rfl) (by k_extra "isb") (by kernel_rfl) (by kernel_rfl) (by kernel_rfl) (by kernel_rfl) (by kernel_rfl) ?_
  intro cx news kz hp hk
  obtain ⟨hW, f1, f2, g1, f3, f4, hN, h3, h4, h5, h6, hz⟩ := hp
  have d1 := pow_le k h3 h4
  have d2 := seen_bd k r h3 h4 h5 (by omega)
  have d3 := stored_bd h3 h4 d2
  have b1 : Wd w A S news ∧ Fz A news p1 (tp [.int 6 u, .ref t2]) ∧ NumIn w A S news t2 k r ∧ 1 ≤ k ∧ k ≤ 11 ∧ 0 ≤ r ∧ r < 2 ^ (lbits k).toNat ∧ S.tl.length ≤ 9000 := ⟨hW, f4, hN, h3, h4, h5, h6, hz⟩
  have b2 : 1 ≤ k ∧ k ≤ 11 ∧ -(2 ^ 70) ≤ stN k (seen k r) ∧ stN k (seen k r) ≤ 2 ^ 70 ∧ 0 ≤ r ∧ r < 2 ^ (lbits k).toNat ∧ stN k (seen k r) = stN k (seen k r) := ⟨h3, h4, by omega, by omega, h5, h6, rfl⟩
  k_with "cc" => first | exact c_this_num w A S p1 t2 k r _ u | exact c_number_hash w k (stN k (seen k r)) r _ _ | fail
  k_with "pre" => first | exact b1 | exact b2 | fail
  refine Wb.assign (V := fun t => .int (stN k (seen k r)) t) (by k_extra "e") (by kernel_rfl) (by exact rfl) ?_
  refine Wb.ifF0 (by k_extra "t") (by k_extra "bf") ?_
  refine Wb.retG (Go.tup (by k_extra "es") (by kernel_rfl) fun a τ ha => ?_)
  exact hk a _ _ ha


theorem valueAt_lookup {v : Value} {k : Int} : ∀ {l : List (Int × Value)}, l.lookup k = some v → valueAt l k = some v
  | [], h => by cases h
  | (a, b) :: l, h => by
    unfold valueAt
    rw [List.find?_cons]
    rw [List.lookup_cons] at h
    by_cases e : k = a
    · subst e
      simp at h ⊢
      exact h
    · have e1 : (k == a) = false := by simpa using e
      have e2 : ¬ a = k := fun q => e q.symm
      rw [e1] at h
      simp only [e2, decide_false]
      exact valueAt_lookup h
structure CoreIn (A : Ad) (news : List (Addr × Obj)) (cls : Addr) (mid k : Int) : Prop where
  ex : ∃ (x d : Addr) (es : List DictEntry) (n : Nat) (t : Tok), valueAt A.cm mid = some (.ref x) ∧ Fz A news x (instObj cls d) ∧ Fz A news d (dictOf es n) ∧ getL (Str.ofString "k") es = some (some (.int k t)) ∧ getL (Str.ofString "call") es = some none
theorem Wd.coreIn {w : World} {A : Ad} {S : St} {news : List (Addr × Obj)} (h : Wd w A S news) (i : Nat) (hi : i < 35) : CoreIn A news (coreCls i) (70 + (i : Int)) (coreKind i) := by
  obtain ⟨x, d, es, n, t, h1, h2, h3, h4, h5⟩ := h.cores i hi
  exact ⟨x, d, es, n, t, valueAt_lookup h1, h2, h3, h4, h5⟩
theorem core_of {w : World} {A : Ad} {S : St} {news : List (Addr × Obj)} (h : Wd w A S news) {k : Int} (h1 : 1 ≤ k) (h2 : k ≤ 11) (j : Nat) (hj : j < 3) {cls : Addr} (hc : cls = if j = 0 then 620 else if j = 1 then 646 else 672) {mid : Int} (e : mid = 67 + 3 * k + j) : CoreIn A news cls mid k := by
  obtain ⟨i, hi⟩ : ∃ i : Nat, (i : Int) = k - 1 := ⟨(k - 1).toNat, by omega⟩
  have q := h.coreIn (3 * i + j) (by omega)
  have e1 : coreCls (3 * i + j) = cls := by
    subst hc
    unfold coreCls
    rw [if_neg (by omega), show (3 * i + j) % 3 = j by omega]
  have e2 : coreKind (3 * i + j) = k := by
    unfold coreKind
    rw [if_neg (by omega), if_neg (by omega), show (3 * i + j) / 3 = i by omega]
    omega
  have e3 : (70 : Int) + ((3 * i + j : Nat) : Int) = mid := by omega
  rw [e1, e2, e3] at q
  exact q
theorem core_cmp {w : World} {A : Ad} {S : St} {news : List (Addr × Obj)} (h : Wd w A S news) {k : Int} (hk : k = 7 ∨ k = 9) {mid : Int} (e : mid = 103 + (k - 7) / 2) : CoreIn A news 698 mid k := by
  rcases hk with rfl | rfl
  · subst e; exact h.coreIn 33 (by decide)
  · subst e; exact h.coreIn 34 (by decide)
structure SrcIn (A : Ad) (news : List (Addr × Obj)) (t1 : Addr) (k r : Int) : Prop where
  ex : ∃ lk, LK k lk ∧ Src A news t1 (seen lk r)
theorem Src.ext2 {A : Ad} {n1 n2 : List (Addr × Obj)} {t1 : Addr} {n : Int} (e : Ext A n1 n2) (h : Src A n1 t1 n) : Src A n2 t1 n := h.ext e
structure NumSelf (A : Ad) (news : Led) (cls x : Addr) (k : Int) : Prop where
  ex : ∃ d es n t, Fz A news x (instObj cls d) ∧ Fz A news d (dictOf es n) ∧ getL (Str.ofString "k") es = some (some (.int k t)) ∧ getL (Str.ofString "call") es = some none
theorem NumSelf.keep {A : Ad} {n1 n2 : Led} {cls x : Addr} {k : Int} (h : NumSelf A n1 cls x k) (e : ∀ p ∈ n1, p ∈ n2) : NumSelf A n2 cls x k := by
  obtain ⟨d, es, n, t, h1, h2, h3, h4⟩ := h.ex
  exact ⟨d, es, n, t, ⟨e _ h1.1, h1.2⟩, ⟨e _ h2.1, h2.2⟩, h3, h4⟩
theorem SrcIn.keep {A : Ad} {n1 n2 : Led} {t1 : Addr} {k r : Int} (h : SrcIn A n1 t1 k r) (e : ∀ p ∈ n1, p ∈ n2) : SrcIn A n2 t1 k r := by
  obtain ⟨lk, h1, h2⟩ := h.ex
  exact ⟨lk, h1, h2.ext fun p hp _ => e p hp⟩
theorem cc_src (w : World) (A : Ad) (S : St) (k mid : Int) (c t1 : Addr) (args : Value) (t u : Tok) {pre : Led → Prop} {T : Led → (Value → Led → Prop) → Prop}
    (h : ∀ news k', pre news → T news k' → Wd w A S news ∧ (∃ t2 t3, Fz A news c (tp [.ref t1, .ref t2, .ref t3])) ∧ ∃ x cls f, valueAt A.cm mid = some (.ref x) ∧ NumSelf A news cls x k ∧ methIn (KF w.params) cls (Str.ofString "call") f = true ∧
      ∀ (q : Addr) (n1 : Led), (∀ p ∈ news, p ∈ n1) → ∀ (D : Nat) (cx : Cx) (cs : Scope) (mm : Locs), 11 ≤ D → Go w D cx cs mm n1 (PySem.call (.ref f) [.ref x, .ref (A.a 14), .ref q, .ref t1, args]) k') : CC w 12 1435 [.ref (A.a 18), .int k t, .int mid u, .ref c, args] pre T := by
  refine cc_of (mm0 := [(Str.ofString "args", fun _ => args), (Str.ofString "cell", fun _ => .ref c), (Str.ofString "mid", fun t => .int mid t), (Str.ofString "kind", fun t => .int k t), (Str.ofString "w", fun _ => .ref (A.a 18))]) [(Str.ofString "args", args), (Str.ofString "cell", .ref c), (Str.ofString "mid", .int mid u), (Str.ofString "kind", .int k t), (Str.ofString "w", .ref (A.a 18))] (by k_is) (by k_is) (by kernel_rfl) (.cons ⟨0, rfl⟩ (.cons .any (.cons .int (.cons .int (.cons .any .nil))))) (by kernel_rfl) (by kernel_rfl) (by kernel_rfl) (by kernel_rfl) (by kernel_rfl) ?_
  intro cx news k' hp hk
  obtain ⟨hW, ⟨t2, t3, h1⟩, x, cls, f, c1, c2, hM, hC⟩ := h news k' hp hk
  obtain ⟨d, es, n, tt, c3, c4, c5, c6⟩ := c2.ex
  have a1 := hW.e_core
  have a2 := hW.wd
  have a3 := hW.core
  refine Wb.retG (Go.methA (Go.ev (V := fun _ => .ref x) ?_ fun _ => ⟨rfl, c3.1, c4.1, c6, hM, ?_⟩) (by kernel_rfl))
  · exact Ev.ditemI (by k_extra "e") (by k_extra "e") (by k_extra "m") a3 c1 .any (by kernel_rfl)
  refine EvA.cons (V := fun _ => .ref (A.a 14)) (by k_extra "e") (by kernel_rfl) fun _ => EvA.go (Go.tupA (EvA.cons (by k_extra "e") (by kernel_rfl) fun t4 => EvA.cons (by k_extra "e") (by kernel_rfl) fun t5 => EvA.go (Go.tupA (EvA.nil ⟨Nat.le_of_ble_eq_true rfl, fun a0 h0 => EvA.nil ⟨Nat.le_of_ble_eq_true rfl, fun a1 h1' => ?_⟩⟩)) (by kernel_rfl))) (by kernel_rfl)
  exact EvA.cons (V := fun _ => .ref t1) (by k_extra "e") (by kernel_rfl) fun _ => EvA.cons (V := fun _ => args) (by k_extra "e") (by kernel_rfl) fun _ => EvA.nil (hC a1 _ (fun p hp => .tail _ (.tail _ hp)) _ _ _ _ (Nat.le_refl 11))
theorem subExt {A : Ad} {n1 n2 : Led} (h : ∀ p ∈ n1, p ∈ n2) : Ext A n1 n2 := fun p hp _ => h p hp
inductive ArgIn (S : St) (k n : Int) : Int → Int → Prop
  | none : ArgIn S k n 0 0
  | other (i : Nat) (r : TR) (h : S.il[i]? = some r) (hk : r.kind ≠ k) : ArgIn S k n (i + 1) 0
  | num (i : Nat) (r : TR) (m : Int) (t : Tok) (h : S.il[i]? = some r) (hk : r.kind = k) (hv : r.vs = [.int m t]) : ArgIn S k n (i + 1) (if m = n then 1 else 0)
theorem items_at {l : List TR} {i : Nat} {r : TR} (h : l[i]? = some r) : (Value.none :: thv l)[((i : Int) + 1).toNat]? = some (.ref r.a) := by
  rw [show ((i : Int) + 1).toNat = i + 1 by omega, List.getElem?_cons_succ]
  exact thv_at h
theorem q_val {k : Value → Led → Prop} {news : Led} {a b : Value} (h : a = b) (q : k b news) : k a news := by rw [h]; exact q
theorem c_num_cmp (w : World) (A : Ad) (S : St) (k r o : Int) (x t1 args : Addr) (n1 : Nat) (mref : Value) (v : Tok) : CP w 10 695 [.ref x, .ref (A.a 14), mref, .ref t1, .ref args] (fun news => Wd w A S news ∧ NumSelf A news 698 x k ∧ SrcIn A news t1 k r ∧ Fz A news args (listOf [Value.int o v].toArray n1) ∧ (k = 7 ∨ k = 9) ∧ 0 ≤ r ∧ r < 2 ^ (lbits k).toNat) (fun t => .int (cmpOf (seen k r) o) t) := by
  refine cc_of [(Str.ofString "args", .ref args), (Str.ofString "this", .ref t1), (Str.ofString "mref", mref), (Str.ofString "ev", .ref (A.a 14)), (Str.ofString "self", .ref x)] (by k_is) (by k_is) (by kernel_rfl) (by k_extra "isb") (by kernel_rfl) (by kernel_rfl) (by kernel_rfl) (by kernel_rfl) (by kernel_rfl) ?_
  intro cx news kz hp hk
  obtain ⟨hW, hX, ⟨lk, hl, hS⟩, h2, hk', h5, h6⟩ := hp
  obtain ⟨d, es, n, t, c3, c4, c5, c6⟩ := hX.ex
  have h3 : 1 ≤ k := by omega
  have h4 : k ≤ 11 := by omega
  have b0 := pow_le k h3 h4
  obtain ⟨b1, b2⟩ := hl.le h3 h4
  have b3 := seen_bd lk r b1 b2 h5 (by omega)
  have b4 := twin_seen hl h3 h4 h5 h6
  k_with "cc" => first | exact c_number_at w A S _ (seen lk r) t1 _ | exact c_compare_of w _ _ _ _ | fail
  k_with "pre" => first | exact ⟨hW, hS, h3, h4, by omega, by omega⟩ | trivial | fail
  k_extra "w"
  rw [b4]
  exact hk
theorem c_num_same (w : World) (A : Ad) (S : St) (k r o ans : Int) (x t1 args : Addr) (n1 : Nat) (mref : Value) (v : Tok) : CP w 10 643 [.ref x, .ref (A.a 14), mref, .ref t1, .ref args] (fun news => Wd w A S news ∧ NumSelf A news 646 x k ∧ SrcIn A news t1 k r ∧ Fz A news args (listOf [Value.int o v].toArray n1) ∧ 1 ≤ k ∧ k ≤ 11 ∧ 0 ≤ r ∧ r < 2 ^ (lbits k).toNat ∧ ArgIn S k (seen k r) o ans ∧ S.il.length ≤ 9000) (fun t => .int ans t) := by
  refine cc_of [(Str.ofString "args", .ref args), (Str.ofString "this", .ref t1), (Str.ofString "mref", mref), (Str.ofString "ev", .ref (A.a 14)), (Str.ofString "self", .ref x)] (by k_is) (by k_is) (by kernel_rfl) (by k_extra "isb") (by kernel_rfl) (by kernel_rfl) (by kernel_rfl) (by kernel_rfl) (by kernel_rfl) ?_
  intro cx news kz hp hk
  obtain ⟨hW, hX, ⟨lk, hl, hS⟩, h2, h3, h4, h5, h6, hA, hz⟩ := hp
  obtain ⟨d, es, n, t, c3, c4, c5, c6⟩ := hX.ex
  have a2 := hW.e_things
  have b0 := pow_le k h3 h4
  obtain ⟨b1, b2⟩ := hl.le h3 h4
  have b3 := seen_bd lk r b1 b2 h5 (by omega)
  have b4 := twin_seen hl h3 h4 h5 h6
  k_with "cc" => first | exact c_number_at w A S _ (seen lk r) t1 _ | exact c_truth_of w _ | fail
  k_with "pre" => first | exact ⟨hW, hS, h3, h4, by omega, by omega⟩ | trivial | fail
  cases hA with
  | none =>
    k_extra "w"
  | other i ri hi hk' =>
    have hlt := (List.getElem?_eq_some_iff.mp hi).1
    have e1 := items_at hi
    have q := hW.items i ri hi
    have e2 := q.inst
    have e3 := q.dict
    obtain ⟨t9, e4⟩ := q.gkind
    k_extra "w"
    exact hk
  | num i ri m t8 hi hk' hv =>
    have hlt := (List.getElem?_eq_some_iff.mp hi).1
    have e1 := items_at hi
    have q := hW.items i ri hi
    have e2 := q.inst
    have e3 := q.dict
    have e5 := q.slots
    have e6 := q.gslots
    obtain ⟨t9, e4⟩ := q.gkind
    rw [hv] at e5
    rw [hk'] at e4
    k_extra "w"
    rw [b4]
    intro t0
    refine q_val ?_ (hk t0)
    by_cases e : m = seen k r <;> simp [e]
theorem c_num_words (w : World) (A : Ad) (S : St) (k r : Int) (x t1 : Addr) (mref args : Value) : CC w 10 617 [.ref x, .ref (A.a 14), mref, .ref t1, args] (fun news => Wd w A S news ∧ NumSelf A news 620 x k ∧ SrcIn A news t1 k r ∧ 1 ≤ k ∧ k ≤ 11 ∧ 0 ≤ r ∧ r < 2 ^ (lbits k).toNat ∧ S.il.length ≤ 9000) (fun news k' => ∀ t u u' r' n' news', Wd w A { S with il := S.il ++ [r'], itn := n' } news' → Ext A news news' → r'.kind = 13 → getL (Str.ofString "kind") r'.es = some (some (.int 13 u')) → Fz A news' r'.a (instObj 361 r'.d) → Fz A news' r'.d (dictOf r'.es r'.n) → getL (Str.ofString "text") r'.es = some (some (.str (txt k r) u)) → k' (.int (S.il.length + 1 : Nat) t) news') := by
  refine cc_of [(Str.ofString "args", args), (Str.ofString "this", .ref t1), (Str.ofString "mref", mref), (Str.ofString "ev", .ref (A.a 14)), (Str.ofString "self", .ref x)] (by k_is) (by k_is) (by kernel_rfl) (by k_extra "isb") (by kernel_rfl) (by kernel_rfl) (by kernel_rfl) (by kernel_rfl) (by kernel_rfl) ?_
  intro cx news kz hp hk
  obtain ⟨hW, hX, ⟨lk, hl, hS⟩, h3, h4, h5, h6, hz⟩ := hp
  obtain ⟨d, es, n, t, c3, c4, c5, c6⟩ := hX.ex
  have b0 := pow_le k h3 h4
  obtain ⟨b1, b2⟩ := hl.le h3 h4
  have b3 := seen_bd lk r b1 b2 h5 (by omega)
  have b4 := twin_seen hl h3 h4 h5 h6
  have b5 := seen_bd k r h3 h4 h5 (by omega)
  have p1 : Wd w A S news ∧ Src A news t1 (seen lk r) ∧ 1 ≤ k ∧ k ≤ 11 ∧ -(2 ^ 70) ≤ seen lk r ∧ seen lk r ≤ 2 ^ 70 := ⟨hW, hS, h3, h4, by omega, by omega⟩
  have p2 : 1 ≤ k ∧ k ≤ 11 ∧ -(2 ^ 70) ≤ twin k (seen lk r) ∧ twin k (seen lk r) ≤ 2 ^ 70 ∧ 0 ≤ r ∧ r < 2 ^ (lbits k).toNat ∧ twin k (seen lk r) = seen k r := ⟨h3, h4, by omega, by omega, h5, h6, b4⟩
  k_with "cc" => first | exact c_number_words w k (twin k (seen lk r)) r _ _ | exact c_number_at w A S k (seen lk r) t1 _ | fail
  k_with "pre" => first | exact p1 | exact p2 | fail
  refine Wb.retG (Go.callT (by kernel_rfl) (by k_is) (by k_is) (by k_extra "es") (fun τ => c_new_words w A S (txt k r) (τ 1)) (by kernel_rfl) (by decide) (fun _ => by exact ⟨hW, by omega⟩) (fun _ => by k_extra "mono") ?_)
  exact fun _ => hk
theorem c_src_words (w : World) (A : Ad) (S : St) (k mid r : Int) (c t1 t2 t3 args : Addr) (t u : Tok) : CC w 12 1435 [.ref (A.a 18), .int k t, .int mid u, .ref c, .ref args]
    (fun news => Wd w A S news ∧ mid = 67 + 3 * k ∧ Fz A news c (tp [.ref t1, .ref t2, .ref t3]) ∧ SrcIn A news t1 k r ∧ 1 ≤ k ∧ k ≤ 11 ∧ 0 ≤ r ∧ r < 2 ^ (lbits k).toNat ∧ S.il.length ≤ 9000)
    (fun news k' => ∀ t u u' r' n' news', Wd w A { S with il := S.il ++ [r'], itn := n' } news' → Ext A news news' → r'.kind = 13 → getL (Str.ofString "kind") r'.es = some (some (.int 13 u')) → Fz A news' r'.a (instObj 361 r'.d) → Fz A news' r'.d (dictOf r'.es r'.n) → getL (Str.ofString "text") r'.es = some (some (.str (txt k r) u)) → k' (.int (S.il.length + 1 : Nat) t) news') := by
  refine cc_src w A S k mid c t1 (.ref args) t u fun news kz hp hk => ?_
  obtain ⟨hW, hm, h1, hS, h3, h4, h5, h6, hz⟩ := hp
  obtain ⟨x, d, es, n, tt, c1, c2, c3, c4, c5⟩ := (core_of (mid := mid) hW h3 h4 0 (by decide) rfl (by omega)).ex
  refine ⟨hW, ⟨_, _, h1⟩, x, 620, 617, c1, ⟨d, es, n, tt, c2, c3, c4, c5⟩, by kernel_rfl, fun q n1' sub D cx cs mm hD => ?_⟩
  refine Go.ctr (c_num_words w A S k r x t1 _ _) (by omega) ⟨hW.keep sub, NumSelf.keep ⟨d, es, n, tt, c2, c3, c4, c5⟩ sub, hS.keep sub, h3, h4, h5, h6, hz⟩ (by k_extra "mono") ?_
  exact fun t u u' r' n' n2 W2 E2 => hk t u u' r' n' n2 W2 ((subExt sub).trans E2)
theorem c_src_cmp (w : World) (A : Ad) (S : St) (k mid r o : Int) (c t1 t2 t3 args : Addr) (n1 : Nat) (t u v : Tok) : CC w 12 1435 [.ref (A.a 18), .int k t, .int mid u, .ref c, .ref args]
    (fun news => Wd w A S news ∧ mid = 103 + (k - 7) / 2 ∧ Fz A news c (tp [.ref t1, .ref t2, .ref t3]) ∧ SrcIn A news t1 k r ∧ Fz A news args (listOf [Value.int o v].toArray n1) ∧ (k = 7 ∨ k = 9) ∧ 0 ≤ r ∧ r < 2 ^ (lbits k).toNat)
    (fun news k' => ∀ t news', Wd w A S news' → Ext A news news' → k' (.int (cmpOf (seen k r) o) t) news') := by
  refine cc_src w A S k mid c t1 (.ref args) t u fun news kz hp hk => ?_
  obtain ⟨hW, hm, h1, hS, h2, hk', h5, h6⟩ := hp
  obtain ⟨x, d, es, n, tt, c1, c2, c3, c4, c5⟩ := (core_cmp hW hk' hm).ex
  refine ⟨hW, ⟨_, _, h1⟩, x, 698, 695, c1, ⟨d, es, n, tt, c2, c3, c4, c5⟩, by kernel_rfl, fun q n1' sub D cx cs mm hD => ?_⟩
  exact Go.ctr (c_num_cmp w A S k r o x t1 args n1 _ v) (by omega) ⟨hW.keep sub, NumSelf.keep ⟨d, es, n, tt, c2, c3, c4, c5⟩ sub, hS.keep sub, ⟨sub _ h2.1, h2.2⟩, hk', h5, h6⟩ (fun _ _ h g t => h _ _ (g t)) fun t => hk _ _ (hW.keep sub) (subExt sub)
theorem c_src_same (w : World) (A : Ad) (S : St) (k mid r o ans : Int) (c t1 t2 t3 args : Addr) (n1 : Nat) (t u v : Tok) : CC w 12 1435 [.ref (A.a 18), .int k t, .int mid u, .ref c, .ref args]
    (fun news => Wd w A S news ∧ mid = 68 + 3 * k ∧ Fz A news c (tp [.ref t1, .ref t2, .ref t3]) ∧ SrcIn A news t1 k r ∧ Fz A news args (listOf [Value.int o v].toArray n1) ∧ 1 ≤ k ∧ k ≤ 11 ∧ 0 ≤ r ∧ r < 2 ^ (lbits k).toNat ∧ ArgIn S k (seen k r) o ans ∧ S.il.length ≤ 9000)
    (fun news k' => ∀ t news', Wd w A S news' → Ext A news news' → k' (.int ans t) news') := by
  refine cc_src w A S k mid c t1 (.ref args) t u fun news kz hp hk => ?_
  obtain ⟨hW, hm, h1, hS, h2, h3, h4, h5, h6, hA, hz⟩ := hp
  obtain ⟨x, d, es, n, tt, c1, c2, c3, c4, c5⟩ := (core_of (mid := mid) hW h3 h4 1 (by decide) rfl (by omega)).ex
  refine ⟨hW, ⟨_, _, h1⟩, x, 646, 643, c1, ⟨d, es, n, tt, c2, c3, c4, c5⟩, by kernel_rfl, fun q n1' sub D cx cs mm hD => ?_⟩
  exact Go.ctr (c_num_same w A S k r o ans x t1 args n1 _ v) (by omega) ⟨hW.keep sub, NumSelf.keep ⟨d, es, n, tt, c2, c3, c4, c5⟩ sub, hS.keep sub, ⟨sub _ h2.1, h2.2⟩, h3, h4, h5, h6, hA, hz⟩ (fun _ _ h g t => h _ _ (g t)) fun t => hk _ _ (hW.keep sub) (subExt sub)


theorem xor_bd (a b : Int) : -(2 ^ 70) ≤ Builtin.bitXor (a.fmod 4294967296) (b.fmod 4294967296) ∧ Builtin.bitXor (a.fmod 4294967296) (b.fmod 4294967296) ≤ 2 ^ 70 := by
  rw [Int.fmod_eq_emod_of_nonneg _ (by decide), Int.fmod_eq_emod_of_nonneg _ (by decide), bitXor_and]
  have h1 := Int.emod_nonneg a (show (4294967296 : Int) ≠ 0 by decide)
  have h2 := Int.emod_lt_of_pos a (show (0 : Int) < 4294967296 by decide)
  have h3 := Int.emod_nonneg b (show (4294967296 : Int) ≠ 0 by decide)
  have h4 := Int.emod_lt_of_pos b (show (0 : Int) < 4294967296 by decide)
  have h5 := bitAnd_range (a % 4294967296) h3
  omega
theorem c_num_hash (w : World) (A : Ad) (S : St) (k r : Int) (x t1 : Addr) (mref args : Value) : CP w 10 669 [.ref x, .ref (A.a 14), mref, .ref t1, args] (fun news => Wd w A S news ∧ NumSelf A news 672 x k ∧ SrcIn A news t1 k r ∧ 1 ≤ k ∧ k ≤ 11 ∧ 0 ≤ r ∧ r < 2 ^ (lbits k).toNat) (fun t => .int (hashed k r) t) := by
  refine cc_of [(Str.ofString "args", args), (Str.ofString "this", .ref t1), (Str.ofString "mref", mref), (Str.ofString "ev", .ref (A.a 14)), (Str.ofString "self", .ref x)] (by k_is) (by k_is) (by kernel_rfl) (by k_extra "isb") (by kernel_rfl) (by kernel_rfl) (by kernel_rfl) (by kernel_rfl) (by kernel_rfl) ?_
  intro cx news kz hp hk
  obtain ⟨hW, hX, ⟨lk, hl, hS⟩, h3, h4, h5, h6⟩ := hp
  obtain ⟨d, es, n, t, c3, c4, c5, c6⟩ := hX.ex
  have b0 := pow_le k h3 h4
  obtain ⟨b1, b2⟩ := hl.le h3 h4
  have b3 := seen_bd lk r b1 b2 h5 (by omega)
  have b4 := twin_seen hl h3 h4 h5 h6
  have b5 := seen_bd k r h3 h4 h5 (by omega)
  have b7 := xor_bd (twin k (seen lk r)) ((twin k (seen lk r)).fdiv (2 ^ Int.toNat 32))
  have b8 : Wd w A S news ∧ Src A news t1 (seen lk r) ∧ 1 ≤ k ∧ k ≤ 11 ∧ -(2 ^ 70) ≤ seen lk r ∧ seen lk r ≤ 2 ^ 70 := ⟨hW, hS, h3, h4, by omega, by omega⟩
  k_with "cc" => first | exact c_number_at w A S _ (seen lk r) t1 _ | exact c_wrap32 w _ _ | fail
  k_with "pre" => first | exact b8 | assumption | exact ⟨by omega, by omega⟩ | fail
  by_cases e1 : k = 1
  · subst e1
    rw [seen1] at b4
    clear b7
    k_extra "w"
    all_goals refine endI hk ?_
    all_goals (rw [wrapS_is]; unfold hashed; rw [if_pos rfl]; unfold wrapS)
    all_goals (rename_i hb; simp only [Bool.and_true, decide_eq_true_eq, decide_eq_false_iff_not, ne_eq, Decidable.not_not] at hb)
    · split <;> omega
    · split <;> omega
  by_cases e2 : k = 2
  · subst e2
    rw [seen2] at b4
    rw [kn2.pw] at h6
    clear b7
    k_extra "w"
    all_goals refine endI hk ?_
    all_goals (rw [wrapS_is, b4]; unfold hashed; rw [if_neg (by decide), if_pos rfl])
  by_cases e9 : k = 9 ∨ k = 10
  · rw [wide_pow e9] at h6
    k_extra "w"
    all_goals refine endI hk ?_
    all_goals (rw [b4, show (2 : Int) ^ Int.toNat 32 = 4294967296 by decide, Int.fmod_eq_emod_of_nonneg _ (by decide), Int.fmod_eq_emod_of_nonneg _ (by decide), Int.fdiv_eq_ediv_of_nonneg _ (by decide)]; exact hash_wide e9 h5 h6 (wide_cases e9).1)
  · k_extra "w"
    all_goals refine endI hk ?_
    all_goals (rw [b4]; exact hash_src e1 e2 (by omega) (by omega))
theorem c_src_hash (w : World) (A : Ad) (S : St) (k mid r : Int) (c t1 t2 t3 args : Addr) (t u : Tok) : CC w 12 1435 [.ref (A.a 18), .int k t, .int mid u, .ref c, .ref args]
    (fun news => Wd w A S news ∧ mid = 69 + 3 * k ∧ Fz A news c (tp [.ref t1, .ref t2, .ref t3]) ∧ SrcIn A news t1 k r ∧ 1 ≤ k ∧ k ≤ 11 ∧ 0 ≤ r ∧ r < 2 ^ (lbits k).toNat)
    (fun news k' => ∀ t news', Wd w A S news' → Ext A news news' → k' (.int (hashed k r) t) news') := by
  refine cc_src w A S k mid c t1 (.ref args) t u fun news kz hp hk => ?_
  obtain ⟨hW, hm, h1, hS, h3, h4, h5, h6⟩ := hp
  obtain ⟨x, d, es, n, tt, c1, c2, c3, c4, c5⟩ := (core_of (mid := mid) hW h3 h4 2 (by decide) rfl (by omega)).ex
  refine ⟨hW, ⟨_, _, h1⟩, x, 672, 669, c1, ⟨d, es, n, tt, c2, c3, c4, c5⟩, by kernel_rfl, fun q n1' sub D cx cs mm hD => ?_⟩
  exact Go.ctr (c_num_hash w A S k r x t1 _ _) (by omega) ⟨hW.keep sub, NumSelf.keep ⟨d, es, n, tt, c2, c3, c4, c5⟩ sub, hS.keep sub, h3, h4, h5, h6⟩ (fun _ _ h g t => h _ _ (g t)) fun t => hk _ _ (hW.keep sub) (subExt sub)


theorem StLe.item {S : St} {r : TR} {n : Nat} : StLe S { S with il := S.il ++ [r], itn := n } := ⟨⟨[], by simp⟩, ⟨[r], rfl⟩, fun _ _ h => h⟩
theorem StLe.trans {S S' S'' : St} (h : StLe S S') (g : StLe S' S'') : StLe S S'' := by
  obtain ⟨⟨l1, e1⟩, ⟨l2, e2⟩, h3⟩ := h
  obtain ⟨⟨m1, f1⟩, ⟨m2, f2⟩, g3⟩ := g
  exact ⟨⟨l1 ++ m1, by rw [f1, e1, List.append_assoc]⟩, ⟨l2 ++ m2, by rw [f2, e2, List.append_assoc]⟩, fun o v q => g3 o v (h3 o v q)⟩
theorem NumIn.grow {w : World} {A : Ad} {S S' : St} {n1 n2 : List (Addr × Obj)} {t2 : Addr} {k r : Int} (h : NumIn w A S n1 t2 k r) (e : Ext A n1 n2) (l : StLe S S') : NumIn w A S' n2 t2 k r := by
  obtain ⟨q, lk, u1, u2, h1, h2, h3⟩ := h
  exact ⟨q, lk, u1, u2, h1, h2.grow e l, h3.ext e⟩
theorem SrcIn.ext {A : Ad} {n1 n2 : List (Addr × Obj)} {t1 : Addr} {k r : Int} (h : SrcIn A n1 t1 k r) (e : Ext A n1 n2) : SrcIn A n2 t1 k r := by
  obtain ⟨lk, h1, h2⟩ := h
  exact ⟨lk, h1, h2.ext e⟩
noncomputable def Bd (S S' : St) (n : Nat) : Prop := S'.tl.length ≤ S.tl.length + n ∧ S'.il.length ≤ S.il.length + n ∧ S'.kept.length ≤ S.kept.length + n ∧ S'.sk.length ≤ S.sk.length + n
/-- a cell, its parts -/
theorem CellIn.parts {w : World} {A : Ad} {S : St} {news : List (Addr × Obj)} {k r : Int} {c : Addr} (h : CellIn A S news k r c) (h1 : 1 ≤ k) (h2 : k ≤ 11) :
    ∃ t1 t2 t3 b0 b1 u1 u2, Fz A news c (tp [.ref t1, .ref t2, .ref t3]) ∧ SrcIn A news t1 k r ∧ NumIn w A S news t2 k r ∧ Fz A news t3 (tp [.int b0 u1, .int b1 u2]) ∧ BoxIn A S news k (seen k r) b0 b1 := by
  cases h with
  | mk t1 t2 t3 q lk b0 b1 u1 u2 u3 u4 hl h3 h4 h5 h6 h7 h8 =>
    rw [hl.tag h1 h2] at h5
    exact ⟨t1, t2, t3, b0, b1, u3, u4, h8, ⟨lk, hl, h3⟩, ⟨q, lk, u1, u2, hl, h4, h5⟩, h7, h6⟩
theorem len_things {w : World} {A : Ad} {S : St} {news : List (Addr × Obj)} {B : Around} {E : Value → Shared → Prop} {s : Shared} {h₀ : Heap} {L : Addr} {Q : Value → Shared → Prop} {k : Nat} (hW : Wd w A S news) (N : News h₀ L s.heap news) (hk : S.il.length + 1 = k) (hz : k ≤ 20000) (h : Q (.int k (s.toks + 1)) { s with toks := s.toks + 1 + 1 }) :
    wpAny (model pg w) B (call (.builtin "len") [.ref (A.a 16)]) Q E s :=
  len_news (k := k) N (hW.mem 16 _ rfl) (by rw [List.length_cons, thv_len]; exact hk) (by omega) h
theorem len_snoc {l : List TR} {r : TR} : (l ++ [r]).length + 1 = l.length + 1 + 1 := by simp
theorem str_ne {a : Str} : ¬ ((a != a) = true) := by simp
theorem str_eq {a : Str} : (a == a) = true := by simp
theorem c_law_words (w : World) (A : Ad) (S : St) (k r : Int) (c : Addr) (t u : Tok) : CC w 16 1442 [.ref (A.a 18), .int k t, .int r u, .ref c]
    (fun news => Wd w A S news ∧ CellIn A S news k r c ∧ 1 ≤ k ∧ k ≤ 11 ∧ 0 ≤ r ∧ r < 2 ^ (lbits k).toNat ∧ (k = 1 → r ≤ 1) ∧ S.tl.length ≤ 8000 ∧ S.il.length ≤ 8000)
    (fun news k' => ∀ S' news', Wd w A S' news' → Ext A news news' → Bd S S' 2 → k' (.bool true) news') := by
  refine cc_of [(Str.ofString "cell", .ref c), (Str.ofString "raw", .int r u), (Str.ofString "kind", .int k t), (Str.ofString "w", .ref (A.a 18))] (by k_is) (by k_is) (by kernel_rfl) (by k_extra "isb") (by kernel_rfl) (by kernel_rfl) (by kernel_rfl) (by kernel_rfl) (by kernel_rfl) ?_
  intro cx news kz hp hk
  obtain ⟨hW, hC, h3, h4, h5, h6, h7, z1, z2⟩ := hp
  obtain ⟨t1, t2, t3, b0, b1, u1, u2, f1, f2, f3, f4, f5⟩ := hC.parts (w := w) h3 h4
  have a0 := hW.wd
  have a1 := hW.e_things
  have d1 := pow_le k h3 h4
  have d2 := seen_bd k r h3 h4 h5 (by omega)
  have d3 := stored_bd h3 h4 d2
  have e0 : (Value.none :: thv S.il).length = S.il.length + 1 := by rw [List.length_cons, thv_len]
  have fit0 : (((Value.none :: thv S.il).length : Nat) : Int) < 2 ^ 63 := by omega
  k_with "fit" => first | with_reducible exact fit0 | fail
  k_extra "w"
  refine Wb.ifNeOr (Go.callA (by kernel_rfl) (by k_is) (by k_is) (by kernel_rfl) (EvA.cons (V := fun _ => .ref (A.a 18)) (by k_extra "e") (by kernel_rfl) fun _ => EvA.cons (V := fun t => .int k t) (by k_extra "e") (by kernel_rfl) fun t4 => EvA.cons (V := fun t => .int (67 + 3 * k) t) (by k_extra "e") (by kernel_rfl) fun t5 => EvA.cons (V := fun _ => .ref c) (by k_extra "e") (by kernel_rfl) fun _ => EvA.go (Go.list EvL.nil (by kernel_rfl) fun l9 τ9 h9 => EvA.nil ?_) (by kernel_rfl))) (by kernel_rfl)
  refine Go.ctr (c_src_words w A S k (67 + 3 * k) r c t1 t2 t3 l9 t4 t5) (by decide) ⟨hW.cons, rfl, f1.ext Ext.refl.cons, f2.ext Ext.refl.cons, h3, h4, h5, h6, by omega⟩ (by k_extra "mono") ?_
  intro t6 u6 u7 r' n' n1 hW1 hE1 q1 q2 q3 q4 q5
  have hE : Ext A news n1 := Ext.trans Ext.refl.cons hE1
  clear hE1
  have e1 : (Value.none :: thv (S.il ++ [r'])).length = S.il.length + 1 + 1 := by rw [List.length_cons, thv_len, List.length_append]; rfl
  have fit1 : (((Value.none :: thv (S.il ++ [r'])).length : Nat) : Int) < 2 ^ 63 := by omega
  have e2 : (Value.none :: thv (S.il ++ [r']))[(((Value.none :: thv S.il).length : Nat) : Int).toNat]? = some (.ref r'.a) := by
    rw [Int.toNat_natCast, e0, List.getElem?_cons_succ]
    exact thv_at (by simp)
  have e3 : ((S.il.length + 1 : Nat) : Int) = (((Value.none :: thv S.il).length : Nat) : Int) := by rw [e0]
  have e4 : decide ((((Value.none :: thv (S.il ++ [r'])).length : Nat) : Int) ≠ (((Value.none :: thv S.il).length : Nat) : Int) + 1) = false := by
    rw [e0, e1]
    exact decide_eq_false (fun q => q (by omega))
  have g0 : (0 : Int) ≤ (((Value.none :: thv S.il).length : Nat) : Int) ∧ (((Value.none :: thv S.il).length : Nat) : Int) < 2 ^ 63 := ⟨by omega, fit0⟩
  k_with "fit" => first | with_reducible exact fit1 | fail
  refine ⟨_, _, .int, by k_extra "e", Cmp.neI e3, Tst.orF (b := false) (Tst.cmp (by k_extra "e") (by k_extra "e") Cmp.ne (by kernel_rfl)) e4 Tst.or0, ?_⟩
  have b1' : 1 ≤ k ∧ k ≤ 11 ∧ 0 ≤ r ∧ r < 2 ^ (lbits k).toNat ∧ (k = 1 → r ≤ 1) := ⟨h3, h4, h5, h6, h7⟩
  have b2' : 1 ≤ k ∧ k ≤ 11 ∧ -(2 ^ 70) ≤ stN k (seen k r) ∧ stN k (seen k r) ≤ 2 ^ 70 ∧ 0 ≤ r ∧ r < 2 ^ (lbits k).toNat ∧ (k = 1 → r ≤ 1) ∧ stN k (seen k r) = stN k (seen k r) := ⟨h3, h4, by omega, by omega, h5, h6, h7, rfl⟩
  k_with "cc" => first | exact c_law_shown w k r _ _ | fail
  k_with "pre" => first | exact b1' | fail
  k_with "int" => first | with_reducible exact g0.1 | with_reducible exact g0.2 | fail
  k_extra "w"
  refine Wb.ret (V := fun _ => .bool true) (Ev.cmp (Ev.call (by kernel_rfl) (by k_is) (by k_is) (EvL.cons (by k_extra "e") (EvL.cons (V := fun t => .int (stN k (seen k r)) t) ?_ EvL.nil (by kernel_rfl)) (by kernel_rfl)) (fun τ => c_number_text w k (stN k (seen k r)) r _ _) (by kernel_rfl) (by decide) b2') (by k_extra "e") Cmp.eqS (by kernel_rfl)) ?_
  · refine Ev.of (Go.callA (by kernel_rfl) (by k_is) (by k_is) (by kernel_rfl) (EvA.cons (V := fun _ => .ref (A.a 9)) (by k_extra "e") (by kernel_rfl) fun _ => EvA.go (Go.tup (by k_extra "es") (by kernel_rfl) fun p1 τ1 hp1 => EvA.cons (V := fun t => .int k t) (by k_extra "e") (by kernel_rfl) fun t8 => EvA.nil ?_) (by kernel_rfl)))
    refine Go.ctr (c_this_num w A _ p1 t2 k r t8 _) (by decide) ⟨hW1.cons, ⟨.head _, hW1.nt hp1⟩, f3.grow hE.cons StLe.item, h3, h4, h5, h6, by dsimp only; omega⟩ (by intro _ _ h g t; exact h _ _ (g t)) ?_
    exact fun t => ⟨fun p hp => .tail _ hp, t, rfl⟩
  · intro _
    exact hk _ _ hW1 hE ⟨Nat.le_add_right _ _, by simp, Nat.le_add_right _ _, Nat.le_add_right _ _⟩


theorem c_law_marks (w : World) (A : Ad) (S : St) (k r : Int) (c : Addr) (t u : Tok) : CC w 16 1449 [.ref (A.a 18), .int k t, .int r u, .ref c]
    (fun news => Wd w A S news ∧ CellIn A S news k r c ∧ 1 ≤ k ∧ k ≤ 11 ∧ 0 ≤ r ∧ r < 2 ^ (lbits k).toNat ∧ S.tl.length ≤ 8000 ∧ S.il.length ≤ 8000)
    (fun news k' => ∀ news', Wd w A S news' → Ext A news news' → k' (.bool true) news') := by
  refine cc_of [(Str.ofString "cell", .ref c), (Str.ofString "raw", .int r u), (Str.ofString "kind", .int k t), (Str.ofString "w", .ref (A.a 18))] (by k_is) (by k_is) (by kernel_rfl) (by k_extra "isb") (by kernel_rfl) (by kernel_rfl) (by kernel_rfl) (by kernel_rfl) (by kernel_rfl) ?_
  intro cx news kz hp hk
  obtain ⟨hW, hC, h3, h4, h5, h6, z1, z2⟩ := hp
  obtain ⟨t1, t2, t3, b0, b1, u1, u2, f1, f2, f3, f4, f5⟩ := hC.parts (w := w) h3 h4
  have a0 := hW.wd
  have b1' : 1 ≤ k ∧ k ≤ 11 ∧ 0 ≤ r ∧ r < 2 ^ (lbits k).toNat := ⟨h3, h4, h5, h6⟩
  k_with "cc" => first | exact c_law_hashed w k r _ _ | fail
  k_with "pre" => first | exact b1' | fail
  k_extra "w"
  refine Wb.ifNe (Go.callA (by kernel_rfl) (by k_is) (by k_is) (by kernel_rfl) (EvA.cons (V := fun _ => .ref (A.a 18)) (by k_extra "e") (by kernel_rfl) fun _ => EvA.cons (V := fun t => .int k t) (by k_extra "e") (by kernel_rfl) fun t4 => EvA.cons (V := fun t => .int (69 + 3 * k) t) (by k_extra "e") (by kernel_rfl) fun t5 => EvA.cons (V := fun _ => .ref c) (by k_extra "e") (by kernel_rfl) fun _ => EvA.go (Go.list EvL.nil (by kernel_rfl) fun l9 τ9 h9 => EvA.nil ?_) (by kernel_rfl))) (by kernel_rfl)
  refine Go.ctr (c_src_hash w A S k (69 + 3 * k) r c t1 t2 t3 l9 t4 t5) (by decide) ⟨hW.cons, rfl, f1.ext Ext.refl.cons, f2.ext Ext.refl.cons, h3, h4, h5, h6⟩ (by k_extra "mono") ?_
  intro t n1 hW1 hE1
  have hE : Ext A news n1 := Ext.trans Ext.refl.cons hE1
  clear hE1
  refine ⟨_, _, .int, by k_extra "e", Cmp.neI rfl, ?_⟩
  refine Wb.retG (Go.cmp (Go.methE (Go.callT (by kernel_rfl) (by k_is) (by k_is) (by k_extra "es") (fun τ => c_new_hash w A S k _) (by kernel_rfl) (by decide) (fun _ => by exact hW1) (fun _ => by k_extra "mono") ?_) (by kernel_rfl)) (by kernel_rfl))
  intro _ x d es n u n2 hW2 hE2 q1 q2 q3 q4
  refine ⟨x, d, 1234, 1231, es, n, rfl, q1.1, q2.1, q4, by kernel_rfl, ?_⟩
  refine EvA.cons (V := fun _ => .ref (A.a 9)) (by k_extra "e") (by kernel_rfl) fun _ => EvA.cons (V := fun _ => .none) (by k_extra "e") (by kernel_rfl) fun _ => EvA.go (Go.listA (EvA.go (Go.tup (by k_extra "es") (by kernel_rfl) fun p1 τ1 hp1 => EvA.nil ⟨Nat.le_of_ble_eq_true rfl, fun l1 hl1 => EvA.nil ?_⟩) (by kernel_rfl))) (by kernel_rfl)
  have hE3 : Ext A news ((l1, listOf [Value.ref p1].toArray 0) :: (p1, tp [.int 6 (τ1 0), .ref t2]) :: n2) := (hE.trans hE2).cons.cons
  refine Go.ctr (c_prim_hash w A S x d l1 p1 t2 es n 0 k r _ _) (by decide) ⟨hW2.cons.cons, .tail _ (.tail _ q1.1), .tail _ (.tail _ q2.1), q3, .head _, ⟨.tail _ (.head _), hW2.nt hp1⟩, f3.grow hE3 StLe.refl, h3, h4, h5, h6, by omega⟩ (by intro _ _ h g; intros; exact h _ _ (g _ _ _ (by assumption))) ?_
  intro a t u ha
  refine Go.tup (by k_extra "es") (by kernel_rfl) fun b τ hb => ?_
  refine Go.eqPair (.tail _ (.head _)) (.head _) ?_
  exact hk _ hW2.cons.cons.cons.cons hE3.cons.cons
theorem xor_bit (r : Int) (j b : Nat) (h0 : 0 ≤ r) (h1 : r < 2 ^ b) (hj : j < b) : 0 ≤ Builtin.bitXor r (2 ^ j) ∧ Builtin.bitXor r (2 ^ j) < 2 ^ b ∧ Builtin.bitXor r (2 ^ j) ≠ r := by
  have hp : (0 : Int) < 2 ^ j := Int.pow_pos (by decide)
  rw [bitXor_and, kbt_bit]
  have hm : r / 2 ^ j % 2 = 0 ∨ r / 2 ^ j % 2 = 1 := by omega
  have hd : 2 ^ j * (r / 2 ^ j) + r % 2 ^ j = r := Int.mul_ediv_add_emod r (2 ^ j)
  have hr := Int.emod_nonneg r (show (2 : Int) ^ j ≠ 0 by omega)
  have hr2 := Int.emod_lt_of_pos r hp
  have hq : 0 ≤ r / 2 ^ j := Int.ediv_nonneg h0 (by omega)
  obtain ⟨c, hc⟩ : ∃ c, b = j + (c + 1) := ⟨b - j - 1, by omega⟩
  have hb : (2 : Int) ^ b = 2 ^ j * (2 * 2 ^ c) := by rw [hc, Int.pow_add, Int.pow_succ, Int.mul_comm (2 ^ c) 2]
  have hq2 : r / 2 ^ j < 2 * 2 ^ c := by
    apply Int.ediv_lt_of_lt_mul hp
    rw [Int.mul_comm, ← hb]
    exact h1
  generalize (2 : Int) ^ j = P at *
  generalize (2 : Int) ^ c = C at *
  generalize hQ : r / P = Q at *
  generalize r % P = R at *
  rcases hm with e | e
  · rw [e]
    have h3 : Q + 1 ≤ 2 * C := by omega
    have h4 : Q + 2 ≤ 2 * C := by omega
    have h5 : P * (Q + 1) ≤ P * (2 * C) := Int.mul_le_mul_of_nonneg_left h3 (by omega)
    rw [Int.mul_add] at h5
    refine ⟨by omega, ?_, by omega⟩
    rw [hb]
    have h6 : P * (Q + 2) ≤ P * (2 * C) := Int.mul_le_mul_of_nonneg_left h4 (by omega)
    rw [Int.mul_add] at h6
    omega
  · rw [e]
    have h3 : 1 ≤ Q := by omega
    have h5 : P * 1 ≤ P * Q := Int.mul_le_mul_of_nonneg_left h3 (by omega)
    rw [hb] at h1 ⊢
    exact ⟨by omega, by omega, by omega⟩
theorem seen_inj {k a b : Int} (h1 : 1 ≤ k) (h2 : k ≤ 11) (ha : 0 ≤ a) (ha' : a < 2 ^ (lbits k).toNat) (hb : 0 ≤ b) (hb' : b < 2 ^ (lbits k).toNat) (e : seen k a = seen k b) : a = b := by
  have := pow_le k h1 h2
  rcases seen_cases k a with p | p <;> rcases seen_cases k b with q | q <;> rw [p, q] at e <;> omega
theorem stored_inj {k a b : Int} (h1 : 1 ≤ k) (h2 : k ≤ 11) (ha : 0 ≤ a) (ha' : a < 2 ^ (lbits k).toNat) (hb : 0 ≤ b) (hb' : b < 2 ^ (lbits k).toNat) (e : stN k (seen k a) = stN k (seen k b)) : a = b := by
  by_cases c : k = 8 ∨ k = 10
  · have es (x : Int) : seen k x = x := by unfold seen; rw [if_neg (by omega)]
    rw [es, es] at e
    unfold stN at e
    split at e <;> split at e <;> omega
  · rw [stN_id (by omega) (by omega), stN_id (by omega) (by omega)] at e
    exact seen_inj h1 h2 ha ha' hb hb' e


inductive OthIn (A : Ad) (S : St) (news : List (Addr × Obj)) (k r : Int) : Int → Int → Int → Prop
  | none : OthIn A S news k r 0 0 0
  | far (i j : Nat) (ri rj : TR) (h1 : S.il[i]? = some ri) (h2 : S.tl[j]? = some rj) (h3 : ri.kind ≠ k) (h4 : rj.kind ≠ k) : OthIn A S news k r (i + 1) (16 + 3 * j) 0
  | box (i j : Nat) (r' : Int) (h : BoxAt A S news k (seen k r') i j) (h0 : 0 ≤ r') (h1 : r' < 2 ^ (lbits k).toNat) : OthIn A S news k r (i + 1) (16 + 3 * j) (if r' = r then 1 else 0)
noncomputable def same (s b0 : Int) : Int := if s = 1 ∨ (s = 6 ∧ b0 ≠ 0) then 1 else 0
theorem StLe.of {S S' : St} {a b : TR} (h1 : S'.tl = S.tl ++ [a]) (h2 : S'.il = S.il ++ [b]) (h3 : S'.sk = S.sk) : StLe S S' := ⟨⟨_, h1⟩, ⟨_, h2⟩, fun o v q => by rw [h3]; exact q⟩
theorem Bd.of {S S' : St} {a b : TR} (h1 : S'.tl = S.tl ++ [a]) (h2 : S'.il = S.il ++ [b]) (h3 : S'.sk = S.sk) (h4 : S'.kept.length = S.kept.length + 2) : Bd S S' 2 := by
  refine ⟨?_, ?_, ?_, ?_⟩
  · rw [h1]; simp
  · rw [h2]; simp
  · omega
  · rw [h3]; omega
theorem oth_box {A : Ad} {S S' : St} {news : List (Addr × Obj)} {k r r' o0 a ans : Int} {x d sl x2 d2 sl2 q : Addr} {es es2 : List DictEntry} {n1 c n2 c2 : Nat} {v t u : Tok} (h1 : S'.tl = S.tl ++ [⟨x, d, es, n1, k, sl, [.ref q], c⟩]) (h2 : S'.il = S.il ++ [⟨x2, d2, es2, n2, k, sl2, [.int (seen k r') v], c2⟩])
    (hq : Fz A news q (tp [.int (stTag k) t, .int (stN k (seen k r')) u])) (h0 : 0 ≤ r') (h3 : r' < 2 ^ (lbits k).toNat) (e1 : o0 = (S.il.length : Nat) + 1) (e2 : a = 16 + 3 * ((S.tl.length : Nat) : Int)) (e3 : ans = if r' = r then 1 else 0) : OthIn A S' news k r o0 a ans := by
  subst e1 e2 e3
  exact .box _ _ _ ⟨_, _, _, _, _, _, at_end h2, rfl, rfl, at_end h1, rfl, rfl, hq⟩ h0 h3
theorem oth_far {A : Ad} {S S' : St} {news : List (Addr × Obj)} {k r o0 a : Int} {ri rj : TR} (h1 : S'.tl = S.tl ++ [rj]) (h2 : S'.il = S.il ++ [ri]) (k1 : ri.kind ≠ k) (k2 : rj.kind ≠ k) (e1 : o0 = (S.il.length : Nat) + 1) (e2 : a = 16 + 3 * ((S.tl.length : Nat) : Int)) : OthIn A S' news k r o0 a 0 := by
  subst e1 e2
  exact .far _ _ _ _ (at_end h2) (at_end h1) k1 k2
theorem far_ne (k z : Int) (h1 : 1 ≤ k) (h2 : k ≤ 11) : 1 ≤ (k + z.fmod 10).fmod 11 + 1 ∧ (k + z.fmod 10).fmod 11 + 1 ≤ 11 ∧ (k + z.fmod 10).fmod 11 + 1 ≠ k := by
  rw [Int.fmod_eq_emod_of_nonneg _ (show (0 : Int) ≤ 10 by decide), Int.fmod_eq_emod_of_nonneg _ (show (0 : Int) ≤ 11 by decide)]
  omega
theorem fmod_bd (a b : Int) (h : 0 < b) : 0 ≤ a.fmod b ∧ a.fmod b < b := ⟨Int.fmod_nonneg_of_pos _ h, Int.fmod_lt_of_pos _ h⟩
theorem c_law_other (w : World) (A : Ad) (S : St) (k r sort z : Int) (c t1 t2 t3 : Addr) (b0 b1 : Int) (t u v x u1 u2 : Tok) : CC w 12 1456 [.ref (A.a 18), .int k t, .int r u, .ref c, .int sort v, .int z x]
    (fun news => Wd w A S news ∧ Fz A news c (tp [.ref t1, .ref t2, .ref t3]) ∧ Fz A news t3 (tp [.int b0 u1, .int b1 u2]) ∧ BoxIn A S news k (seen k r) b0 b1 ∧ 1 ≤ k ∧ k ≤ 11 ∧ 0 ≤ r ∧ r < 2 ^ (lbits k).toNat ∧ 0 ≤ sort ∧ sort ≤ 6 ∧ 0 ≤ z ∧ z ≤ 2 ^ 40 ∧ S.tl.length ≤ 8000 ∧ S.il.length ≤ 8000 ∧ S.kept.length ≤ 8000)
    (fun news k' => ∀ S' news' q o0 a u v, Wd w A S' news' → Ext A news news' → StLe S S' → Bd S S' 2 → OthIn A S' news' k r o0 a (same sort b0) → Fz A news' q (tp [.int o0 u, .int a v]) → k' (.ref q) news') := by
  refine cc_of [(Str.ofString "z", .int z x), (Str.ofString "sort", .int sort v), (Str.ofString "cell", .ref c), (Str.ofString "raw", .int r u), (Str.ofString "kind", .int k t), (Str.ofString "w", .ref (A.a 18))] (by k_is) (by k_is) (by kernel_rfl) (by k_extra "isb") (by kernel_rfl) (by kernel_rfl) (by kernel_rfl) (by kernel_rfl) (by kernel_rfl) ?_
  intro cx news kz hp hk
  obtain ⟨hW, f1, f2, hB, h3, h4, h5, h6, s1, s2, y1, y2, z1, z2, z3⟩ := hp
  have d1 := pow_le k h3 h4
  have d2 := seen_bd k r h3 h4 h5 (by omega)
  have d4 := lbits_le k h3 h4
  have a0 := hW.wd
  have a1 := hW.m_heap
  have b0' : 1 ≤ k ∧ k ≤ 11 ∧ 0 ≤ r ∧ r < 2 ^ 64 := ⟨h3, h4, h5, by omega⟩
  k_with "cc" => first | exact c_law_seen w _ _ _ _ | exact c_law_bits w _ _ | fail
  k_with "pre" => first | exact b0' | exact ⟨h3, h4⟩ | assumption | fail
  obtain e | e | e | e | e | e | e := scases s1 s2
  · subst e
    k_extra "w"
    refine Wb.retG (Go.tup (by k_extra "es") (by kernel_rfl) fun a τ ha => ?_)
    exact hk S _ a 0 0 _ _ hW.cons Ext.refl.cons StLe.refl ⟨Nat.le_add_right _ _, Nat.le_add_right _ _, Nat.le_add_right _ _, Nat.le_add_right _ _⟩ (by rw [show same 0 b0 = 0 from if_neg (by omega)]; exact .none) ⟨.head _, hW.nt ha⟩
  · subst e
    k_extra "w"
    refine Wb.retG (Go.callT (by kernel_rfl) (by k_is) (by k_is) (by k_extra "es") (fun τ => c_law_box w A S k k (seen k r) _ _ _) (by kernel_rfl) (by decide) (fun _ => by exact ⟨hW, h3, h4, by omega, by omega, by omega, by omega, by omega⟩) (fun _ => by k_extra "mono") ?_)
    intro τ_ S' news' b q x d es n1 sl c x2 d2 es2 n2 sl2 c2 v2 t1 t2 t3 t4 hW' hE e1 e2 e3 e4 e5 _ _ _ _ z5 z6
    exact hk S' news' b _ _ _ _ hW' hE (StLe.of e1 e2 e3) (Bd.of e1 e2 e3 e5) (oth_box e1 e2 z5 h5 h6 (by omega) rfl (by rw [if_pos rfl]; exact if_pos (.inl rfl))) z6
  · subst e
    have d5 := fmod_bd z (lbits k) (by omega)
    have d6 := xor_bit r (z.fmod (lbits k)).toNat (lbits k).toNat h5 h6 (by omega)
    have d7 := seen_bd k (Builtin.bitXor r (2 ^ (z.fmod (lbits k)).toNat)) h3 h4 d6.1 (by omega)
    have d8 : 1 ≤ k ∧ k ≤ 11 ∧ 0 ≤ Builtin.bitXor r (2 ^ (z.fmod (lbits k)).toNat) ∧ Builtin.bitXor r (2 ^ (z.fmod (lbits k)).toNat) < 2 ^ 64 := ⟨h3, h4, d6.1, by omega⟩
    k_with "pre" => first | exact d8 | fail
    k_extra "w"
    refine Wb.retG (Go.callT (by kernel_rfl) (by k_is) (by k_is) (by k_extra "es") (fun τ => c_law_box w A S k k (seen k (Builtin.bitXor r (2 ^ (z.fmod (lbits k)).toNat))) _ _ _) (by kernel_rfl) (by decide) (fun _ => by exact ⟨hW, h3, h4, by omega, by omega, by omega, by omega, by omega⟩) (fun _ => by k_extra "mono") ?_)
    intro τ_ S' news' b q x d es n1 sl c x2 d2 es2 n2 sl2 c2 v2 t1 t2 t3 t4 hW' hE e1 e2 e3 e4 e5 _ _ _ _ z5 z6
    exact hk S' news' b _ _ _ _ hW' hE (StLe.of e1 e2 e3) (Bd.of e1 e2 e3 e5) (oth_box e1 e2 z5 d6.1 d6.2.1 (by omega) rfl (by rw [if_neg d6.2.2]; exact if_neg (by omega))) z6
  · subst e
    have d5 := far_ne k z h3 h4
    have d8 := pow_le _ d5.1 d5.2.1
    have d9 := lbits_le _ d5.1 d5.2.1
    have d6 := fmod_bd r (2 ^ (lbits ((k + z.fmod 10).fmod 11 + 1)).toNat) (by omega)
    have d7 := seen_bd _ (r.fmod (2 ^ (lbits ((k + z.fmod 10).fmod 11 + 1)).toNat)) d5.1 d5.2.1 d6.1 (by omega)
    have d10 : 1 ≤ (k + z.fmod 10).fmod 11 + 1 ∧ (k + z.fmod 10).fmod 11 + 1 ≤ 11 ∧ 0 ≤ r.fmod (2 ^ (lbits ((k + z.fmod 10).fmod 11 + 1)).toNat) ∧ r.fmod (2 ^ (lbits ((k + z.fmod 10).fmod 11 + 1)).toNat) < 2 ^ 64 := ⟨d5.1, d5.2.1, d6.1, by omega⟩
    have d11 : 1 ≤ (k + z.fmod 10).fmod 11 + 1 ∧ (k + z.fmod 10).fmod 11 + 1 ≤ 11 := ⟨d5.1, d5.2.1⟩
    k_with "pre" => first | exact d10 | exact d11 | fail
    k_with "nz" => first | exact pow2_ne _ | fail
    k_extra "w"
    refine Wb.retG (Go.callT (by kernel_rfl) (by k_is) (by k_is) (by k_extra "es") (fun τ => c_law_box w A S ((k + z.fmod 10).fmod 11 + 1) ((k + z.fmod 10).fmod 11 + 1) (seen ((k + z.fmod 10).fmod 11 + 1) (r.fmod (2 ^ (lbits ((k + z.fmod 10).fmod 11 + 1)).toNat))) _ _ _) (by kernel_rfl) (by decide) (fun _ => by exact ⟨hW, d5.1, d5.2.1, by omega, by omega, by omega, by omega, by omega⟩) (fun _ => by k_extra "mono") ?_)
    intro τ_ S' news' b q x d es n1 sl c x2 d2 es2 n2 sl2 c2 v2 t1 t2 t3 t4 hW' hE e1 e2 e3 e4 e5 _ _ _ _ z5 z6
    exact hk S' news' b _ _ _ _ hW' hE (StLe.of e1 e2 e3) (Bd.of e1 e2 e3 e5) (by rw [show same 3 b0 = 0 from if_neg (by omega)]; exact oth_far e1 e2 (by dsimp only; omega) (by dsimp only; omega) (by omega) rfl) z6
  · subst e
    k_extra "w"
    refine Wb.retG (Go.callT (by kernel_rfl) (by k_is) (by k_is) (by k_extra "es") (fun τ => c_law_box w A S 20 k (seen k r) _ _ _) (by kernel_rfl) (by decide) (fun _ => by exact ⟨hW, h3, h4, by omega, by omega, by omega, by omega, by omega⟩) (fun _ => by k_extra "mono") ?_)
    intro τ_ S' news' b q x d es n1 sl c x2 d2 es2 n2 sl2 c2 v2 t1 t2 t3 t4 hW' hE e1 e2 e3 e4 e5 _ _ _ _ z5 z6
    exact hk S' news' b _ _ _ _ hW' hE (StLe.of e1 e2 e3) (Bd.of e1 e2 e3 e5) (by rw [show same 4 b0 = 0 from if_neg (by omega)]; exact oth_far e1 e2 (by dsimp only; omega) (by dsimp only; omega) (by omega) rfl) z6
  · subst e
    k_extra "w"
    refine Wb.retG (Go.tupA (EvA.go (Go.callT (by kernel_rfl) (by k_is) (by k_is) (by k_extra "es") (fun τ => c_new_words w A S (Str.ofString "5") _) (by kernel_rfl) (by decide) (fun _ => by exact ⟨hW, by omega⟩) (fun _ => by k_extra "mono") ?_) (by kernel_rfl)))
    intro _ t0 u0 u0' r0 n0 news1 hW1 hE1 q1 q2 q3 q4 q5
    refine EvA.go (Go.attr (Go.callA (by kernel_rfl) (by k_is) (by k_is) (by kernel_rfl) ?_) (by kernel_rfl)) (by kernel_rfl)
    refine EvA.cons (V := fun _ => .ref (A.a 5)) (by k_extra "e") (by kernel_rfl) fun _ => EvA.cons (V := fun t => .int 13 t) (by k_extra "e") (by kernel_rfl) fun t9 => EvA.go (Go.listA (EvA.go (Go.tup (by k_extra "es") (by kernel_rfl) fun a9 τ9 h9 => EvA.nil ⟨Nat.le_of_ble_eq_true rfl, fun l9 h9' => EvA.nil ?_⟩) (by kernel_rfl))) (by kernel_rfl)
    refine Go.ctr (c_heap_alloc w A _ 13 l9 [.ref a9] 0 t9) (by decide) ⟨hW1.cons.cons, ⟨.head _, hW1.cons.nt h9'⟩, Nat.le_refl 1, by dsimp only; omega⟩ (by k_extra "mono") ?_
    intro x d es n t1 hes' n' hat' news2 hW2 hE2 q6 q7 q8 q9
    refine ⟨x, d, 794, es, n, _, rfl, q6.1, q7.1, q9, by kernel_rfl, rfl, EvA.nil ⟨Nat.le_of_ble_eq_true rfl, fun b hb => ?_⟩⟩
    have hE : Ext A news news2 := hE1.trans (Ext.trans Ext.refl.cons.cons hE2)
    exact hk _ _ b _ _ _ _ hW2.cons hE.cons ⟨⟨[_], rfl⟩, ⟨[_], rfl⟩, fun _ _ h => h⟩ ⟨by simp, by simp, by simp, by simp⟩ (by rw [show same 5 b0 = 0 from if_neg (by omega)]; exact oth_far (S := S) rfl rfl (by omega) (by dsimp only; omega) (by omega) rfl) ⟨.head _, hW2.nt hb⟩
  · subst e
    have gg := f2.1
    by_cases c0 : b0 = 0
    · k_extra "w"
      refine Wb.retG (Go.tupA (EvA.go (Go.callA (by kernel_rfl) (by k_is) (by k_is) (by kernel_rfl) ?_) (by kernel_rfl)))
      refine EvA.cons (V := fun _ => .ref (A.a 14)) (by k_extra "e") (by kernel_rfl) fun _ => EvA.cons (V := fun t => .int 12 t) (by k_extra "e") (by kernel_rfl) fun t8 => EvA.go (Go.listA (EvA.nil ⟨Nat.le_of_ble_eq_true rfl, fun l8 h8 => EvA.nil ?_⟩)) (by kernel_rfl)
      refine Go.ctr (c_new_item w A S 12 l8 [] 0 t8) (by decide) ⟨hW.cons, ⟨.head _, hW.nt h8⟩, Nat.le_succ 0, by omega⟩ (by k_extra "mono") ?_
      intro t0 x0 d0 es0 n0 n0' news1 hW1 hE1 q1 q2 q3
      refine EvA.go (Go.attr (Go.callA (by kernel_rfl) (by k_is) (by k_is) (by kernel_rfl) ?_) (by kernel_rfl)) (by kernel_rfl)
      refine EvA.cons (V := fun _ => .ref (A.a 5)) (by k_extra "e") (by kernel_rfl) fun _ => EvA.cons (V := fun t => .int 12 t) (by k_extra "e") (by kernel_rfl) fun t9 => EvA.go (Go.listA (EvA.nil ⟨Nat.le_of_ble_eq_true rfl, fun l9 h9 => EvA.nil ?_⟩)) (by kernel_rfl)
      refine Go.ctr (c_heap_alloc w A _ 12 l9 [] 0 t9) (by decide) ⟨hW1.cons, ⟨.head _, hW1.nt h9⟩, Nat.le_succ 0, by dsimp only; omega⟩ (by k_extra "mono") ?_
      intro x d es n t1 hes' n' hat' news2 hW2 hE2 q6 q7 q8 q9
      refine ⟨x, d, 794, es, n, _, rfl, q6.1, q7.1, q9, by kernel_rfl, rfl, EvA.nil ⟨Nat.le_of_ble_eq_true rfl, fun b hb => ?_⟩⟩
      have hE : Ext A news news2 := (Ext.trans Ext.refl.cons hE1).trans (Ext.trans Ext.refl.cons hE2)
      exact hk _ _ b _ _ _ _ hW2.cons hE.cons ⟨⟨[_], rfl⟩, ⟨[_], rfl⟩, fun _ _ h => h⟩ ⟨by simp, by simp, by simp, by simp⟩ (by rw [show same 6 b0 = 0 from if_neg (by omega)]; exact oth_far (S := S) rfl rfl (by dsimp only; omega) (by dsimp only; omega) (by omega) rfl) ⟨.head _, hW2.nt hb⟩
    · k_extra "w"
      intro _
      refine hk S news t3 b0 b1 _ _ hW Ext.refl StLe.refl ⟨Nat.le_add_right _ _, Nat.le_add_right _ _, Nat.le_add_right _ _, Nat.le_add_right _ _⟩ ?_ f2
      cases hB with
      | none g1 g2 => exact absurd g1 c0
      | box i j g1 g2 g3 =>
        subst g1 g2
        rw [show same 6 ((i : Int) + 1) = (if r = r then 1 else 0) by rw [if_pos rfl]; exact if_pos (.inr ⟨rfl, by omega⟩)]
        exact .box i j r g3 h5 h6


theorem hkv_at {l : List TR} {i : Nat} {r : TR} (h : l[i]? = some r) : valueAt (hkv l []) (16 + 3 * (i : Int)) = some (.ref r.a) := by
  have := hkv_get r l [] i h (fun _ h => nomatch h)
  rw [show (16 : Int) + 3 * (i : Int) = 16 + 3 * ((([] : List (Int × Value)).length + i : Nat) : Int) by simp]
  exact this
theorem hkv_zero : ∀ (l : List TR) (acc : List (Int × Value)), (∀ p ∈ acc, 16 ≤ p.1) → valueAt (hkv l acc) 0 = none
  | [], acc, ha => by
    unfold hkv valueAt
    have : acc.find? (fun kv => decide (kv.1 = 0)) = none := by
      rw [List.find?_eq_none]
      intro p hp
      have := ha p hp
      simp only [decide_eq_true_eq]
      omega
    rw [this]
    rfl
  | x :: l, acc, ha => by
    unfold hkv
    refine hkv_zero l _ ?_
    intro p hp
    rcases List.mem_append.mp hp with hp | hp
    · exact ha p hp
    · rcases List.mem_singleton.mp hp with rfl
      show 16 ≤ ((16 + 3 * acc.length : Nat) : Int)
      omega
theorem c_bool_value (w : World) (b : Bool) : CC w 1 1142 [.bool b] (fun _ => True) (fun news k' => ∀ a t u, (∀ p ∈ news, p.1 < a) → k' (.ref a) ((a, tp [.int 1 t, .int (if b = true then 1 else 0) u]) :: news)) := by
  refine cc_of [(Str.ofString "yes", .bool b)] (by k_is) (by k_is) (by kernel_rfl) (by k_extra "isb") (by kernel_rfl) (by kernel_rfl) (by kernel_rfl) (by kernel_rfl) (by kernel_rfl) ?_
  intro cx news kz hp hk
  cases b
  · k_extra "w"
    refine Wb.retG (Go.tup (by k_extra "es") (by kernel_rfl) fun a τ ha => ?_)
    exact hk a _ _ ha
  · k_extra "w"
    refine Wb.retG (Go.tup (by k_extra "es") (by kernel_rfl) fun a τ ha => ?_)
    exact hk a _ _ ha
theorem c_thing_named (w : World) (A : Ad) (S : St) (p2 : Addr) (a : Int) (v y : Tok) (V : Value) (hV : Vl V fun _ => V) : CP w 1 1149 [.ref (A.a 9), .ref p2] (fun news => Wd w A S news ∧ (p2, tp [.int 4 v, .int a y]) ∈ news ∧ (valueAt (hkv S.tl []) a = some V ∨ valueAt (hkv S.tl []) a = none ∧ V = .none)) (fun _ => V) := by
  refine cc_of [(Str.ofString "value", .ref p2), (Str.ofString "m", .ref (A.a 9))] (by k_is) (by k_is) (by kernel_rfl) (by k_extra "isb") (by kernel_rfl) (by kernel_rfl) (by kernel_rfl) (by kernel_rfl) (by kernel_rfl) ?_
  intro cx news kz hp hk
  obtain ⟨hW, h1, h2⟩ := hp
  have a1 := hW.m_heap
  have a2 := hW.h_at
  have a3 := hW.hat
  have a4 := hW.lo8
  rcases h2 with h2 | ⟨h2, rfl⟩
  · skip
    refine Wb.ret (V := fun _ => V) (Ev.dget (kvs := hkv S.tl []) (by k_extra "e") (by k_extra "e") rfl (by k_extra "m") a3 a4 h2 hV (by kernel_rfl)) hk
  · k_extra "w"
theorem c_prim_eq (w : World) (A : Ad) (S : St) (x d args p1 p2 t2 : Addr) (es : List DictEntry) (n m : Nat) (k r o0 a ans : Int) (t u v y : Tok) : CC w 12 1205 [.ref x, .ref (A.a 9), .none, .ref args]
    (fun news => Wd w A S news ∧ Fz A news x (instObj 1208 d) ∧ Fz A news d (dictOf es n) ∧ getL (Str.ofString "kind") es = some (some (.int k t)) ∧ Fz A news args (listOf [Value.ref p1, Value.ref p2].toArray m) ∧ Fz A news p1 (tp [.int 6 u, .ref t2]) ∧ Fz A news p2 (tp [.int 4 v, .int a y]) ∧
      NumIn w A S news t2 k r ∧ OthIn A S news k r o0 a ans ∧ 1 ≤ k ∧ k ≤ 11 ∧ 0 ≤ r ∧ r < 2 ^ (lbits k).toNat ∧ S.tl.length ≤ 9000)
    (fun news k' => ∀ q t u news', Wd w A S news' → Ext A news news' → Fz A news' q (tp [.int 1 t, .int ans u]) → k' (.ref q) news') := by
  refine cc_of [(Str.ofString "args", .ref args), (Str.ofString "f", .none), (Str.ofString "m", .ref (A.a 9)), (Str.ofString "self", .ref x)] (by k_is) (by k_is) (by kernel_rfl) (by k_extra "isb") (by kernel_rfl) (by kernel_rfl) (by kernel_rfl) (by kernel_rfl) (by kernel_rfl) ?_
  intro cx news kz hp hk
  obtain ⟨hW, f1, f2, g1, f3, f4, f5, hN, hO, h3, h4, h5, h6, hz⟩ := hp
  have b1 : Wd w A S news ∧ Fz A news p1 (tp [.int 6 u, .ref t2]) ∧ NumIn w A S news t2 k r ∧ 1 ≤ k ∧ k ≤ 11 ∧ 0 ≤ r ∧ r < 2 ^ (lbits k).toNat ∧ S.tl.length ≤ 9000 := ⟨hW, f4, hN, h3, h4, h5, h6, hz⟩
  k_with "cc" => first | exact c_this_num w A S p1 t2 k r _ u | fail
  k_with "pre" => first | with_reducible exact b1 | fail
  have fin : ∀ (D : Nat) (c : Cx) (cs : Scope) (mm : Locs) (x0 : Str) (np pos : Pos) (e : PySem.Expr) (b : Bool), x0 = Str.ofString "bool_value" → globOk cs x0 = true → noStars [e] = true → 1 ≤ D → Ev w D c cs mm news e (fun _ => .bool b) → (if b = true then 1 else 0) = ans → Go w D c cs mm news (eval (.Call (.Name x0 np) [e] [] pos) (c.env cs)) kz := by
    intro D c cs mm x0 np pos e b hx ho hs hD he hb
    subst hx
    refine Go.callT ho (by k_is) (by k_is) (EvL.cons he EvL.nil (Bool.and_eq_true_iff.mp hs).1) (fun τ => c_bool_value w b) hs hD (fun _ => trivial) (fun _ => by intro _ _ h g; intros; exact h _ _ (g _ _ _ (by assumption))) ?_
    intro _ a t u ha
    rw [hb]
    exact hk a t u _ hW.cons Ext.refl.cons ⟨.head _, hW.nt ha⟩
  cases hO with
  | none =>
    have e1 := hkv_zero S.tl [] (fun _ h => nomatch h)
    have b2 : Wd w A S news ∧ (p2, tp [.int 4 v, .int 0 y]) ∈ news ∧ (valueAt (hkv S.tl []) 0 = some .none ∨ valueAt (hkv S.tl []) 0 = none ∧ Value.none = .none) := ⟨hW, f5.1, .inr ⟨e1, rfl⟩⟩
    k_with "cc" => first | exact c_thing_named w A S p2 0 v y .none .any | fail
    k_with "pre" => first | with_reducible exact b2 | fail
    k_extra "w"
    exact Wb.retG (fin _ _ _ _ _ _ _ _ false rfl (by kernel_rfl) (by kernel_rfl) (by decide) (by k_extra "e") rfl)
  | far i j ri rj e1 e2 e3 e4 =>
    have e5 := hkv_at e2
    have c1 := hW.things j rj e2
    have c2 := c1.rec_.inst
    have c3 := c1.rec_.dict
    obtain ⟨t3, c4⟩ := c1.rec_.gkind
    have b2 : Wd w A S news ∧ (p2, tp [.int 4 v, .int (16 + 3 * (j : Int)) y]) ∈ news ∧ (valueAt (hkv S.tl []) (16 + 3 * (j : Int)) = some (.ref rj.a) ∨ valueAt (hkv S.tl []) (16 + 3 * (j : Int)) = none ∧ Value.ref rj.a = .none) := ⟨hW, f5.1, .inl e5⟩
    k_with "cc" => first | exact c_thing_named w A S p2 (16 + 3 * (j : Int)) v y (.ref rj.a) .any | fail
    k_with "pre" => first | with_reducible exact b2 | fail
    k_extra "w"
    exact Wb.retG (fin _ _ _ _ _ _ _ _ false rfl (by kernel_rfl) (by kernel_rfl) (by decide) (by k_extra "e") rfl)
  | box i j r' hb h0 h1 =>
    obtain ⟨ri, rj, q, t5, u5, v5, e1, e2, e3, e4, e5, e6, e7⟩ := hb
    have e8 := hkv_at e4
    have c1 := hW.things j rj e4
    have c2 := c1.rec_.inst
    have c3 := c1.rec_.dict
    have c5 := c1.rec_.slots
    have c6 := c1.rec_.gslots
    obtain ⟨t3, c4⟩ := c1.rec_.gkind
    rw [e6] at c5
    rw [e5] at c4
    have b2 : Wd w A S news ∧ (p2, tp [.int 4 v, .int (16 + 3 * (j : Int)) y]) ∈ news ∧ (valueAt (hkv S.tl []) (16 + 3 * (j : Int)) = some (.ref rj.a) ∨ valueAt (hkv S.tl []) (16 + 3 * (j : Int)) = none ∧ Value.ref rj.a = .none) := ⟨hW, f5.1, .inl e8⟩
    k_with "cc" => first | exact c_thing_named w A S p2 (16 + 3 * (j : Int)) v y (.ref rj.a) .any | fail
    k_with "pre" => first | with_reducible exact b2 | fail
    k_extra "w"
    refine Wb.retG (fin _ _ _ _ _ _ _ _ (decide (stN k (seen k r') = stN k (seen k r))) rfl (by kernel_rfl) (by kernel_rfl) (by decide) (by k_extra "e") ?_)
    by_cases e : r' = r
    · subst e; simp
    · rw [if_neg e, if_neg (by simpa using fun q' => e (stored_inj h3 h4 h0 h1 h5 h6 q'))]
theorem OthIn.arg {A : Ad} {S : St} {news : List (Addr × Obj)} {k r o0 a ans : Int} (h : OthIn A S news k r o0 a ans) (h1 : 1 ≤ k) (h2 : k ≤ 11) (h3 : 0 ≤ r) (h4 : r < 2 ^ (lbits k).toNat) : ArgIn S k (seen k r) o0 ans := by
  cases h with
  | none => exact .none
  | far i j ri rj e1 e2 e3 e4 => exact .other i ri e1 e3
  | box i j r' hb g0 g1 =>
    obtain ⟨ri, rj, q, t5, u5, v5, e1, e2, e3, e4, e5, e6, e7⟩ := hb
    have z : (if r' = r then (1 : Int) else 0) = (if seen k r' = seen k r then 1 else 0) := by
      by_cases e : r' = r
      · rw [if_pos e, if_pos (by rw [e])]
      · rw [if_neg e, if_neg (fun q => e (seen_inj h1 h2 g0 g1 h3 h4 q))]
    rw [z]
    exact .num i ri _ t5 e1 e2 e3
theorem OthIn.ext {A : Ad} {S : St} {n1 n2 : List (Addr × Obj)} {k r o0 a ans : Int} (h : OthIn A S n1 k r o0 a ans) (e : Ext A n1 n2) : OthIn A S n2 k r o0 a ans := by
  cases h with
  | none => exact .none
  | far i j ri rj e1 e2 e3 e4 => exact .far i j ri rj e1 e2 e3 e4
  | box i j r' hb g0 g1 => exact .box i j r' (hb.grow e StLe.refl) g0 g1


theorem c_law_equals (w : World) (A : Ad) (S : St) (k r sort z : Int) (c : Addr) (t u v x : Tok) : CC w 16 1463 [.ref (A.a 18), .int k t, .int r u, .ref c, .int sort v, .int z x]
    (fun news => Wd w A S news ∧ CellIn A S news k r c ∧ 1 ≤ k ∧ k ≤ 11 ∧ 0 ≤ r ∧ r < 2 ^ (lbits k).toNat ∧ 0 ≤ sort ∧ sort ≤ 6 ∧ 0 ≤ z ∧ z ≤ 2 ^ 40 ∧ S.tl.length ≤ 8000 ∧ S.il.length ≤ 8000 ∧ S.kept.length ≤ 8000)
    (fun news k' => ∀ S' news', Wd w A S' news' → Ext A news news' → Bd S S' 2 → k' (.bool true) news') := by
  refine cc_of [(Str.ofString "z", .int z x), (Str.ofString "sort", .int sort v), (Str.ofString "cell", .ref c), (Str.ofString "raw", .int r u), (Str.ofString "kind", .int k t), (Str.ofString "w", .ref (A.a 18))] (by k_is) (by k_is) (by kernel_rfl) (by k_extra "isb") (by kernel_rfl) (by kernel_rfl) (by kernel_rfl) (by kernel_rfl) (by kernel_rfl) ?_
  intro cx news kz hp hk
  obtain ⟨hW, hC, h3, h4, h5, h6, s1, s2, y1, y2, z1, z2, z3⟩ := hp
  obtain ⟨t1, t2, t3, b0, b1, u1, u2, f1, f2, f3, f4, f5⟩ := hC.parts (w := w) h3 h4
  have a0 := hW.wd
  refine Wb.assignG (Go.callT (by kernel_rfl) (by k_is) (by k_is) (by k_extra "es") (fun τ => c_law_other w A S k r sort z c t1 t2 t3 b0 b1 _ _ _ _ u1 u2) (by kernel_rfl) (by decide) (fun _ => by exact ⟨hW, f1, f4, f5, h3, h4, h5, h6, s1, s2, y1, y2, z1, z2, z3⟩) (fun _ => by k_extra "mono") ?_) (by kernel_rfl) (by exact rfl)
  intro _ S' n1 q o0 a u3 v3 hW1 hE1 hL hB hO hZ
  obtain ⟨m1, m2, m3, m4⟩ := hB
  have g1 := f1.ext hE1
  have g4 := f4.ext hE1
  refine ⟨_, .any, ?_⟩
  refine Wb.assign (by k_extra "e") (by kernel_rfl) (by exact rfl) ?_
  refine Wb.ifL ((Str.ofString "same", fun t => .int (same sort b0) t) :: _) (by k_extra "t") (fun hb => Wb.assign Ev.int (by kernel_rfl) (by exact rfl) (Wb.nil ⟨rfl, LocTo.two (Vl.i ?_)⟩)) (fun hb => LocTo.one (Vl.i ?_)) ?_
  · simp only [Bool.or_false, Bool.and_true, Bool.or_eq_true, Bool.and_eq_true, decide_eq_true_eq, ne_eq] at hb
    exact (if_pos hb).symm
  · simp only [Bool.or_false, Bool.and_true, Bool.or_eq_false_iff, Bool.and_eq_false_iff, decide_eq_false_iff_not, ne_eq, Decidable.not_not] at hb
    exact (if_neg (by omega)).symm
  refine Wb.ifNe (Go.callA (by kernel_rfl) (by k_is) (by k_is) (by kernel_rfl) (EvA.cons (V := fun _ => .ref (A.a 18)) (by k_extra "e") (by kernel_rfl) fun _ => EvA.cons (V := fun t => .int k t) (by k_extra "e") (by kernel_rfl) fun t4 => EvA.cons (V := fun t => .int (68 + 3 * k) t) (by k_extra "e") (by kernel_rfl) fun t5 => EvA.cons (V := fun _ => .ref c) (by k_extra "e") (by kernel_rfl) fun _ => EvA.go (Go.list (EvL.cons (V := fun t => .int o0 t) (by k_extra "e") EvL.nil (by kernel_rfl)) (by kernel_rfl) fun l9 τ9 h9 => EvA.nil ?_) (by kernel_rfl))) (by kernel_rfl)
  refine Go.ctr (c_src_same w A S' k (68 + 3 * k) r o0 (same sort b0) c t1 t2 t3 l9 0 t4 t5 (τ9 0)) (by decide) ⟨hW1.cons, rfl, g1.ext Ext.refl.cons, f2.ext hE1.cons, ⟨.head _, hW1.nt h9⟩, h3, h4, h5, h6, hO.arg h3 h4 h5 h6, by omega⟩ (by k_extra "mono") ?_
  intro t7 n2 hW2 hE2
  have hE : Ext A n1 n2 := Ext.trans Ext.refl.cons hE2
  have hZ2 := hZ.ext hE
  have k1 := g1.ext hE
  clear hE2
  refine ⟨_, _, .int, by k_extra "e", Cmp.neI rfl, ?_⟩
  refine Wb.retG (Go.cmp (Go.methE (Go.callT (by kernel_rfl) (by k_is) (by k_is) (by k_extra "es") (fun τ => c_new_eq w A S' k _) (by kernel_rfl) (by decide) (fun _ => by exact hW2) (fun _ => by k_extra "mono") ?_) (by kernel_rfl)) (by kernel_rfl))
  intro _ x d es n u n3 hW3 hE3 q1 q2 q3 q4
  have hZ3 := hZ2.ext hE3
  have k2 := k1.ext hE3
  refine ⟨x, d, 1208, 1205, es, n, rfl, q1.1, q2.1, q4, by kernel_rfl, ?_⟩
  refine EvA.cons (V := fun _ => .ref (A.a 9)) (by k_extra "e") (by kernel_rfl) fun _ => EvA.cons (V := fun _ => .none) (by k_extra "e") (by kernel_rfl) fun _ => EvA.go (Go.listA (EvA.go (Go.tup (by k_extra "es") (by kernel_rfl) fun p1 τ1 hp1 => ?_) (by kernel_rfl))) (by kernel_rfl)
  refine EvA.go (Go.tup (Vs := [fun t => .int 4 t, fun t => .int a t]) (by k_extra "es") (by kernel_rfl) fun p2 τ2 hp2 => EvA.nil ⟨Nat.le_of_ble_eq_true rfl, fun l1 hl1 => EvA.nil ?_⟩) (by kernel_rfl)
  have hE4 : Ext A n1 ((l1, listOf [Value.ref p1, Value.ref p2].toArray 0) :: (p2, tp [.int 4 (τ2 0), .int a (τ2 1)]) :: (p1, tp [.int 6 (τ1 0), .ref t2]) :: n3) := (hE.trans hE3).cons.cons.cons
  refine Go.ctr (c_prim_eq w A S' x d l1 p1 p2 t2 es n 0 k r o0 a (same sort b0) _ _ _ _) (by decide) ⟨hW3.cons.cons.cons, q1.ext Ext.refl.cons.cons.cons, q2.ext Ext.refl.cons.cons.cons, q3, ⟨.head _, hW3.cons.cons.nt hl1⟩, ⟨.tail _ (.tail _ (.head _)), hW3.nt hp1⟩, ⟨.tail _ (.head _), hW3.cons.nt hp2⟩, f3.grow (hE1.trans hE4) hL, hO.ext hE4, h3, h4, h5, h6, by omega⟩ (by k_extra "mono") ?_
  intro q5 t8 u8 n4 hW5 hE5 hZ5
  refine Go.tup (by k_extra "es") (by kernel_rfl) fun b τ hb => ?_
  refine Go.eqPair (.tail _ hZ5.1) (.head _) ?_
  exact hk S' _ hW5.cons ((hE1.trans hE4).trans hE5).cons ⟨m1, m2, m3, m4⟩


theorem run_val (a b : Int) : ((if decide (a < b) = true then 1 else 0) - (if decide (b < a) = true then 1 else 0) : Int) = 0 - cmpOf a b := by
  unfold cmpOf
  simp only [decide_eq_true_eq]
  split <;> split <;> (try split) <;> omega
inductive RowsIn (A : Ad) (news : List (Addr × Obj)) (L : Addr) (load : Int) : Prop
  | mk (p0 p1 p2 p3 p4 p5 p6 p7 p8 p9 : Addr) (n : Nat) (t0 t1 t2 t3 t4 t5 t6 t7 t8 t9 u0 u1 u2 u3 u4 u5 u6 u7 u8 u9 : Tok)
    (h : Fz A news L (listOf [Value.ref p0, .ref p1, .ref p2, .ref p3, .ref p4, .ref p5, .ref p6, .ref p7, .ref p8, .ref p9].toArray n))
    (h0 : Fz A news p0 (tp [.int 65033 t0, .int 0 u0])) (h1 : Fz A news p1 (tp [.int load t1, .int 0 u1])) (h2 : Fz A news p2 (tp [.int 65033 t2, .int 1 u2])) (h3 : Fz A news p3 (tp [.int 65026 t3, .int 0 u3])) (h4 : Fz A news p4 (tp [.int 65033 t4, .int 0 u4]))
    (h5 : Fz A news p5 (tp [.int load t5, .int 0 u5])) (h6 : Fz A news p6 (tp [.int 65033 t6, .int 1 u6])) (h7 : Fz A news p7 (tp [.int 65028 t7, .int 0 u7])) (h8 : Fz A news p8 (tp [.int 89 t8, .int 0 u8])) (h9 : Fz A news p9 (tp [.int 42 t9, .int 0 u9]))
theorem c_compare_rows (w : World) (A : Ad) (S : St) (load : Int) (t : Tok) : CC w 2 1243 [.int load t] (fun news => Wd w A S news) (fun news k' => ∀ L news', Wd w A S news' → Ext A news news' → RowsIn A news' L load → k' (.ref L) news') := by
  refine cc_of [(Str.ofString "load", .int load t)] (by k_is) (by k_is) (by kernel_rfl) (by k_extra "isb") (by kernel_rfl) (by kernel_rfl) (by kernel_rfl) (by kernel_rfl) (by kernel_rfl) ?_
  intro cx news kz hp hk
  refine Wb.retG (Go.listA (EvA.go (Go.tupW hp (by k_extra "es") (by kernel_rfl) fun p0 τ0 m0 W0 E0 q0 => EvA.go (Go.tupW W0 (by k_extra "es") (by kernel_rfl) fun p1 τ1 m1 W1 E1 q1 => EvA.go (Go.tupW W1 (by k_extra "es") (by kernel_rfl) fun p2 τ2 m2 W2 E2 q2 => EvA.go (Go.tupW W2 (by k_extra "es") (by kernel_rfl) fun p3 τ3 m3 W3 E3 q3 => EvA.go (Go.tupW W3 (by k_extra "es") (by kernel_rfl) fun p4 τ4 m4 W4 E4 q4 => EvA.go (Go.tupW W4 (by k_extra "es") (by kernel_rfl) fun p5 τ5 m5 W5 E5 q5 => EvA.go (Go.tupW W5 (by k_extra "es") (by kernel_rfl) fun p6 τ6 m6 W6 E6 q6 => EvA.go (Go.tupW W6 (by k_extra "es") (by kernel_rfl) fun p7 τ7 m7 W7 E7 q7 => EvA.go (Go.tupW W7 (by k_extra "es") (by kernel_rfl) fun p8 τ8 m8 W8 E8 q8 => EvA.go (Go.tupW W8 (by k_extra "es") (by kernel_rfl) fun p9 τ9 m9 W9 E9 q9 => EvA.nil ⟨Nat.le_of_ble_eq_true rfl, fun L hL => ?_⟩) (by kernel_rfl)) (by kernel_rfl)) (by kernel_rfl)) (by kernel_rfl)) (by kernel_rfl)) (by kernel_rfl)) (by kernel_rfl)) (by kernel_rfl)) (by kernel_rfl)) (by kernel_rfl)))
  have Z9 : Ext A m9 ((L, listOf [Value.ref p0, .ref p1, .ref p2, .ref p3, .ref p4, .ref p5, .ref p6, .ref p7, .ref p8, .ref p9].toArray 0) :: m9) := Ext.refl.cons
  have Z8 := E9.trans Z9
  have Z7 := E8.trans Z8
  have Z6 := E7.trans Z7
  have Z5 := E6.trans Z6
  have Z4 := E5.trans Z5
  have Z3 := E4.trans Z4
  have Z2 := E3.trans Z3
  have Z1 := E2.trans Z2
  have Z0 := E1.trans Z1
  exact hk L _ W9.cons (E0.trans Z0) (RowsIn.mk p0 p1 p2 p3 p4 p5 p6 p7 p8 p9 0 _ _ _ _ _ _ _ _ _ _ _ _ _ _ _ _ _ _ _ _ ⟨.head _, W9.nt hL⟩ (q0.ext Z0) (q1.ext Z1) (q2.ext Z2) (q3.ext Z3) (q4.ext Z4) (q5.ext Z5) (q6.ext Z6) (q7.ext Z7) (q8.ext Z8) (q9.ext Z9))
theorem c_law_run (w : World) (A : Ad) (S : St) (R pl t2 : Addr) (load held other : Int) (t u v : Tok) : CC w 3 1470 [.ref R, .ref pl, .int held t, .int other u] (fun news => Wd w A S news ∧ RowsIn A news R load ∧ (load = 74 ∨ load = 76) ∧ Fz A news pl (tp [.int 6 v, .ref t2])) (fun news k' => ∀ D n t news', Wd w A S news' → Ext A news news' → Fz A news' D (listOf [Value.int (0 - cmpOf other held) t].toArray n) → k' (.ref D) news') := by
  refine cc_of [(Str.ofString "other", .int other u), (Str.ofString "held", .int held t), (Str.ofString "place", .ref pl), (Str.ofString "rows", .ref R)] (by k_is) (by k_is) (by kernel_rfl) (by k_extra "isb") (by kernel_rfl) (by kernel_rfl) (by kernel_rfl) (by kernel_rfl) (by kernel_rfl) ?_
  intro cx news kz hp hk
  obtain ⟨hW, hR, hl, f1⟩ := hp
  obtain ⟨p0, p1, p2, p3, p4, p5, p6, p7, p8, p9, n, t0, t1, t2', t3, t4, t5, t6, t7, t8, t9, u0, u1, u2, u3, u4, u5, u6, u7, u8, u9, h, h0, h1, h2, h3, h4, h5, h6, h7, h8, h9⟩ := hR
  refine Wb.assignL EvL.nil (by kernel_rfl) (by kernel_rfl) (by exact rfl) ?_
  intro D τ hD
  dsimp only [app]
  have g0 : ∀ p ∈ news, p.1 ≠ D := fun p hp => Nat.ne_of_lt (hD p hp)
  refine Wb.forL (by k_extra "e") (by k_extra "m") (by intro _; rfl) ?_
  intro I hI
  have g1 : I ≠ D := Nat.ne_of_gt (hI _ (.head _))
  have g2 : D < I := hI _ (.head _)
  have g3 : ∀ p ∈ news, p.1 < I := fun p hp => hI p (.tail _ hp)
  have n1 : ¬ load = 65033 := by omega
  have n2 : (decide (load = 74) || (decide (load = 76) || false)) = true := by rcases hl with rfl | rfl <;> rfl
  have g4 : NT A D := hW.nt hD
  clear hI hD hl
  k_with "bt" => first | exact n2 | fail
  k_extra "f"
  intro _
  rw [run_val]
  exact hk _ _ _ _ hW.cons.cons (Ext.cons (Ext.cons Ext.refl)) ⟨.tail _ (.head _), g4⟩


theorem RowsIn.ext {A : Ad} {n1 n2 : List (Addr × Obj)} {L : Addr} {load : Int} (h : RowsIn A n1 L load) (e : Ext A n1 n2) : RowsIn A n2 L load := by
  cases h with
  | mk p0 p1 p2 p3 p4 p5 p6 p7 p8 p9 n t0 t1 t2 t3 t4 t5 t6 t7 t8 t9 u0 u1 u2 u3 u4 u5 u6 u7 u8 u9 h h0 h1 h2 h3 h4 h5 h6 h7 h8 h9 =>
    exact .mk p0 p1 p2 p3 p4 p5 p6 p7 p8 p9 n t0 t1 t2 t3 t4 t5 t6 t7 t8 t9 u0 u1 u2 u3 u4 u5 u6 u7 u8 u9 (h.ext e) (h0.ext e) (h1.ext e) (h2.ext e) (h3.ext e) (h4.ext e) (h5.ext e) (h6.ext e) (h7.ext e) (h8.ext e) (h9.ext e)
theorem cmp_anti (a b : Int) : 0 - cmpOf b a = cmpOf a b := by
  unfold cmpOf
  split <;> split <;> (try split) <;> omega
theorem held_is {k lk r : Int} (h : LK k lk) (hk : k = 7 ∨ k = 9) (_h3 : 0 ≤ r) (_h4 : r < 2 ^ (lbits k).toNat) : stN lk (seen lk r) = seen k r := by
  rcases hk with rfl | rfl
  · rcases h with h | ⟨_, _, h⟩ <;> subst h
    · rw [kn7.st0 (by decide)]
    · rw [show (7 : Int) - 1 + 7 % 2 * 2 = 8 by decide, kn8.us (by decide), kn8.st1 (by decide), kn7.sg (by decide)]
  · rcases h with h | ⟨_, _, h⟩ <;> subst h
    · rw [kn9.st0 (by decide)]
    · rw [show (9 : Int) - 1 + 9 % 2 * 2 = 10 by decide, kn10.us (by decide), kn10.st1 (by decide), kn9.sg (by decide)]
theorem c_law_compare (w : World) (A : Ad) (S : St) (k r sort z : Int) (c : Addr) (t u v x : Tok) : CC w 16 1477 [.ref (A.a 18), .int k t, .int r u, .ref c, .int sort v, .int z x]
    (fun news => Wd w A S news ∧ CellIn A S news k r c ∧ (k = 7 ∨ k = 9) ∧ 0 ≤ r ∧ r < 2 ^ (lbits k).toNat ∧ 0 ≤ z ∧ z ≤ 2 ^ 39 ∧ S.tl.length ≤ 8000 ∧ S.il.length ≤ 8000)
    (fun news k' => ∀ news', Wd w A S news' → Ext A news news' → k' (.bool true) news') := by
  refine cc_of [(Str.ofString "z", .int z x), (Str.ofString "sort", .int sort v), (Str.ofString "cell", .ref c), (Str.ofString "raw", .int r u), (Str.ofString "kind", .int k t), (Str.ofString "w", .ref (A.a 18))] (by k_is) (by k_is) (by kernel_rfl) (by k_extra "isb") (by kernel_rfl) (by kernel_rfl) (by kernel_rfl) (by kernel_rfl) (by kernel_rfl) ?_
  intro cx news kz hp hret
  obtain ⟨hW, hC, hk, h5, h6, y1, y2, z1, z2⟩ := hp
  have h3 : 1 ≤ k := by omega
  have h4 : k ≤ 11 := by omega
  obtain ⟨t1, t2, t3, b0, b1, u1, u2, f1, f2, f3, f4, f5⟩ := hC.parts (w := w) h3 h4
  have hN := f3.ex
  obtain ⟨q, lk, u3, u4, g1, g2, g3⟩ := hN
  rw [held_is g1 hk h5 h6] at g3
  have d1 := pow_le k h3 h4
  have d2 := seen_bd k r h3 h4 h5 (by omega)
  have d3 : z.fdiv 6 = z / 6 := Int.fdiv_eq_ediv_of_nonneg _ (by decide)
  have d4 := lraw_bd k (z.fdiv 6) h3 h4
  have d5 : (k - 7).fdiv 2 = (k - 7) / 2 := Int.fdiv_eq_ediv_of_nonneg _ (by decide)
  have d7 := seen_bd k (lraw k (z.fdiv 6)) h3 h4 d4.1 (by omega)
  have a0 := hW.wd
  have a1 := hW.m_places
  have e1 : 1 ≤ k ∧ k ≤ 11 ∧ -(2 ^ 70) ≤ r ∧ r ≤ 2 ^ 70 := ⟨h3, h4, by omega, by omega⟩
  have e2 : 1 ≤ k ∧ k ≤ 11 ∧ -(2 ^ 70) ≤ lraw k (z.fdiv 6) ∧ lraw k (z.fdiv 6) ≤ 2 ^ 70 := ⟨h3, h4, by omega, by omega⟩
  have e3 : 1 ≤ k ∧ k ≤ 11 ∧ 0 ≤ z.fdiv 6 ∧ z.fdiv 6 < 2 ^ 40 := ⟨h3, h4, by omega, by omega⟩
  k_with "cc" => first | exact c_law_seen w _ _ _ _ | exact c_law_raw w _ _ _ _ | fail
  k_with "pre" => first | with_reducible exact e1 | with_reducible exact e2 | with_reducible exact e3 | fail
  refine Wb.assign (by k_extra "e") (by kernel_rfl) (by exact rfl) (Wb.assign (by k_extra "e") (by kernel_rfl) (by exact rfl) ?_)
  obtain ⟨o, ho⟩ : ∃ o, o = if sort = 1 then seen k r else seen k (lraw k (z.fdiv 6)) := ⟨_, rfl⟩
  have o1 : -(2 ^ 64) ≤ o ∧ o ≤ 2 ^ 64 := by
    rw [ho]
    split
    · exact d2
    · exact d7
  refine Wb.ifL ((Str.ofString "other", fun t => .int o t) :: _) (by k_extra "t") (fun hb => Wb.assign (by k_extra "e") (by kernel_rfl) (by exact rfl) (Wb.nil ⟨rfl, LocTo.two (Vl.i (by rw [ho, if_pos (of_decide_eq_true hb)]))⟩)) (fun hb => LocTo.one (Vl.i (by rw [ho, if_neg (of_decide_eq_false hb)]))) ?_
  refine Wb.assign Ev.int (by kernel_rfl) (by exact rfl) ?_
  refine Wb.ifL ((Str.ofString "answer", fun t => .int (if o < seen k r then 1 else 0) t) :: _) (by k_extra "t") (fun hb => Wb.assign (by k_extra "e") (by kernel_rfl) (by exact rfl) (Wb.nil ⟨rfl, LocTo.two (Vl.i (if_pos (of_decide_eq_true hb)).symm)⟩)) (fun hb => LocTo.one (Vl.i (if_neg (of_decide_eq_false hb)).symm)) ?_
  refine Wb.ifL ((Str.ofString "answer", fun t => .int (cmpOf (seen k r) o) t) :: _) (by k_extra "t") (fun hb => Wb.assign (V := fun t => .int (-1) t) (by k_extra "e") (by kernel_rfl) (by exact rfl) (Wb.nil ⟨rfl, LocTo.two (Vl.i (if_pos (of_decide_eq_true hb)).symm)⟩)) (fun hb => LocTo.one (Vl.i (by unfold cmpOf; rw [if_neg (of_decide_eq_false hb)]))) ?_
  refine Wb.ifNe (Go.callA (by kernel_rfl) (by k_is) (by k_is) (by kernel_rfl) (EvA.cons (V := fun _ => .ref (A.a 18)) (by k_extra "e") (by kernel_rfl) fun _ => EvA.cons (V := fun t => .int k t) (by k_extra "e") (by kernel_rfl) fun t4 => EvA.cons (V := fun t => .int (103 + (k - 7).fdiv 2) t) (by k_extra "e") (by kernel_rfl) fun t5 => EvA.cons (V := fun _ => .ref c) (by k_extra "e") (by kernel_rfl) fun _ => EvA.go (Go.list (EvL.cons (V := fun t => .int o t) (by k_extra "e") EvL.nil (by kernel_rfl)) (by kernel_rfl) fun l9 τ9 h9 => EvA.nil ?_) (by kernel_rfl))) (by kernel_rfl)
  refine Go.ctr (c_src_cmp w A S k (103 + (k - 7).fdiv 2) r o c t1 t2 t3 l9 0 t4 t5 (τ9 0)) (by decide) ⟨hW.cons, by rw [d5], f1.ext Ext.refl.cons, f2.ext Ext.refl.cons, ⟨.head _, hW.nt h9⟩, hk, h5, h6⟩ (by k_extra "mono") ?_
  intro t7 n2 hW2 hE2
  have hE : Ext A news n2 := Ext.trans Ext.refl.cons hE2
  have k1 := f1.ext hE
  have k3 := g3.ext hE
  have k4 : Wd w A S n2 ∧ Plc A S n2 t2 q ∧ S.tl.length ≤ 10000 := ⟨hW2, g2.grow hE StLe.refl, by omega⟩
  clear hE2
  refine ⟨_, _, .int, by k_extra "e", Cmp.neI rfl, ?_⟩
  k_with "cc" => first | exact c_read_place w A S t2 q | fail
  k_with "pre" => first | with_reducible exact k4 | fail
  refine Wb.assign (V := fun t => .int (seen k r) t) (by k_extra "e") (by kernel_rfl) (by exact rfl) ?_
  refine Wb.retG (Go.cmp (Go.callA (by kernel_rfl) (by k_is) (by k_is) (by kernel_rfl) (EvA.go (Go.callT (by kernel_rfl) (by k_is) (by k_is) (by k_extra "es") (fun τ => c_compare_rows w A S (74 + k - 7) _) (by kernel_rfl) (by decide) (fun _ => by exact hW2) (fun _ => by k_extra "mono") ?_) (by kernel_rfl))) (by kernel_rfl))
  intro _ R n3 hW3 hE3 hR
  have k5 := k1.ext hE3
  refine EvA.go (Go.tup (by k_extra "es") (by kernel_rfl) fun p1 τ1 hp1 => EvA.cons (V := fun t => .int (seen k r) t) (by k_extra "e") (by kernel_rfl) fun t8 => EvA.cons (V := fun t => .int o t) (by k_extra "e") (by kernel_rfl) fun t9 => EvA.nil ?_) (by kernel_rfl)
  refine Go.ctr (c_law_run w A S R p1 t2 (74 + k - 7) (seen k r) o t8 t9 (τ1 0)) (by decide) ⟨hW3.cons, hR.ext Ext.refl.cons, by omega, ⟨.head _, hW3.nt hp1⟩⟩ (by k_extra "mono") ?_
  intro L n t6 n4 hW4 hE4 hZ4
  refine Go.list (EvL.cons (V := fun t => .int (cmpOf (seen k r) o) t) (by k_extra "e") EvL.nil (by kernel_rfl)) (by kernel_rfl) fun b τ hb => ?_
  rw [cmp_anti] at hZ4
  refine Go.eqOne (.tail _ hZ4.1) (.head _) ?_
  exact hret _ hW4.cons ((hE.trans hE3).trans (Ext.trans Ext.refl.cons hE4)).cons


structure AK (which k : Int) : Prop where
  lo : 1 ≤ k
  hi : k ≤ 11
  c : which = 3 → k = 7 ∨ k = 9
structure AR (which k r : Int) : Prop where
  lo : 0 ≤ r
  hi : r < 2 ^ (lbits k).toNat
  c : k = 1 → which = 0 → r ≤ 1
theorem ak_three (which k : Int) : AK which (7 + k.fmod 2 * 2) := by
  rw [Int.fmod_eq_emod_of_nonneg _ (by decide)]
  exact ⟨by omega, by omega, fun _ => by omega⟩
theorem ar_two (which r : Int) : AR which 1 (r.fmod 2) := by
  rw [Int.fmod_eq_emod_of_nonneg _ (by decide)]
  exact ⟨by omega, by rw [kn1.pw]; omega, fun _ _ => by omega⟩
theorem Bd.trans {S S' S'' : St} {a b c : Nat} (h : Bd S S' a) (g : Bd S' S'' b) (e : a + b ≤ c) : Bd S S'' c := by
  obtain ⟨h1, h2, h3, h4⟩ := h
  obtain ⟨g1, g2, g3, g4⟩ := g
  exact ⟨by omega, by omega, by omega, by omega⟩
theorem c_law_ask (w : World) (A : Ad) (S : St) (k which f sort z : Int) (t u v x y : Tok) : CC w 18 1484 [.ref (A.a 18), .int k t, .int which u, .int f v, .int sort x, .int z y]
    (fun news => Wd w A S news ∧ 1 ≤ k ∧ k ≤ 11 ∧ 0 ≤ which ∧ which ≤ 3 ∧ 0 ≤ f ∧ f ≤ 4 ∧ 0 ≤ sort ∧ sort ≤ 6 ∧ 0 ≤ z ∧ z ≤ 2 ^ 39 ∧ S.tl.length ≤ 7000 ∧ S.il.length ≤ 7000 ∧ S.kept.length ≤ 7000 ∧ S.sk.length ≤ 7000)
    (fun news k' => ∀ S' news', Wd w A S' news' → Ext A news news' → Bd S S' 8 → k' (.bool true) news') := by
  refine cc_of [(Str.ofString "z", .int z y), (Str.ofString "sort", .int sort x), (Str.ofString "form", .int f v), (Str.ofString "which", .int which u), (Str.ofString "kind", .int k t), (Str.ofString "w", .ref (A.a 18))] (by k_is) (by k_is) (by kernel_rfl) (by k_extra "isb") (by kernel_rfl) (by kernel_rfl) (by kernel_rfl) (by kernel_rfl) (by kernel_rfl) ?_
  intro cx news kz hp hret
  obtain ⟨hW, h1, h2, w1, w2, f1, f2, s1, s2, y1, y2, z1, z2, z3, z4⟩ := hp
  obtain ⟨kk, hkk⟩ : ∃ kk, kk = if which = 3 then 7 + k.fmod 2 * 2 else k := ⟨_, rfl⟩
  have hk' : AK which kk := by
    rw [hkk]
    split
    · exact ak_three _ _
    · exact ⟨h1, h2, fun e => absurd e (by omega)⟩
  refine Wb.ifL ((Str.ofString "kind", fun t => .int kk t) :: _) (by k_extra "t") (fun hb => Wb.assign (V := fun t => .int (7 + k.fmod 2 * 2) t) (by k_extra "e") (by kernel_rfl) (by exact rfl) (Wb.nil ⟨rfl, LocTo.one (Vl.i (by rw [hkk, if_pos (of_decide_eq_true hb)]))⟩)) (fun hb => LocTo.add (W := fun t => .int k t) (by exact rfl) (Vl.i (by rw [hkk, if_neg (of_decide_eq_false hb)]))) ?_
  clear h1 h2
  have h1 := hk'.lo
  have h2 := hk'.hi
  have hc3 := hk'.c
  have d1 := pow_le kk h1 h2
  have d2 := lraw_bd kk z h1 h2
  have e1 : 1 ≤ kk ∧ kk ≤ 11 ∧ 0 ≤ z ∧ z < 2 ^ 40 := ⟨h1, h2, y1, by omega⟩
  k_with "cc" => first | exact c_law_raw w _ _ _ _ | fail
  k_with "pre" => first | with_reducible exact e1 | fail
  refine Wb.assign (by k_extra "e") (by kernel_rfl) (by exact rfl) ?_
  obtain ⟨r, hr⟩ : ∃ r, r = if kk = 1 ∧ which = 0 then (lraw kk z).fmod 2 else lraw kk z := ⟨_, rfl⟩
  have hrr : AR which kk r := by
    rw [hr]
    split
    · rename_i q
      obtain ⟨rfl, _⟩ := q
      exact ar_two _ _
    · exact ⟨d2.1, d2.2, fun _ _ => by omega⟩
  refine Wb.ifL ((Str.ofString "raw", fun t => .int r t) :: _) (by k_extra "t") (fun hb => Wb.assign (V := fun t => .int ((lraw kk z).fmod 2) t) (by k_extra "e") (by kernel_rfl) (by exact rfl) (Wb.nil ⟨rfl, LocTo.two (Vl.i (by rw [hr, if_pos (by simpa using hb)]))⟩)) (fun hb => LocTo.one (Vl.i (by rw [hr, if_neg (by simpa using hb)]))) ?_
  have r1 := hrr.lo
  have r2 := hrr.hi
  have r3 := hrr.c
  clear d2 hr hkk hrr hk'
  refine Wb.assignG (Go.callT (by kernel_rfl) (by k_is) (by k_is) (by k_extra "es") (fun τ => c_law_cell w A S kk r f _ _ _) (by kernel_rfl) (by decide) (fun _ => by exact ⟨hW, h1, h2, r1, by omega, f1, f2, by omega, by omega, by omega, by omega⟩) (fun _ => by k_extra "mono") ?_) (by kernel_rfl) (by exact rfl)
  intro _ S1 n1 c hW1 hE1 l1 l2 l3 l4 hC
  refine ⟨_, .any, ?_⟩
  obtain rfl | rfl | rfl | rfl : which = 0 ∨ which = 1 ∨ which = 2 ∨ which = 3 := by omega
  · k_extra "w"
    refine Wb.retG (Go.callT (by kernel_rfl) (by k_is) (by k_is) (by k_extra "es") (fun τ => c_law_words w A S1 kk r c _ _) (by kernel_rfl) (by decide) (fun _ => by exact ⟨hW1, hC, h1, h2, r1, r2, fun e => r3 e rfl, by omega, by omega⟩) (fun _ => by k_extra "mono") ?_)
    intro _ S2 n2 hW2 hE2 hB
    obtain ⟨b1, b2, b3, b4⟩ := hB
    exact hret S2 n2 hW2 (hE1.trans hE2) ⟨by omega, by omega, by omega, by omega⟩
  · k_extra "w"
    refine Wb.retG (Go.callT (by kernel_rfl) (by k_is) (by k_is) (by k_extra "es") (fun τ => c_law_equals w A S1 kk r sort z c _ _ _ _) (by kernel_rfl) (by decide) (fun _ => by exact ⟨hW1, hC, h1, h2, r1, r2, s1, s2, y1, by omega, by omega, by omega, by omega⟩) (fun _ => by k_extra "mono") ?_)
    intro _ S2 n2 hW2 hE2 hB
    obtain ⟨b1, b2, b3, b4⟩ := hB
    exact hret S2 n2 hW2 (hE1.trans hE2) ⟨by omega, by omega, by omega, by omega⟩
  · k_extra "w"
    refine Wb.retG (Go.callT (by kernel_rfl) (by k_is) (by k_is) (by k_extra "es") (fun τ => c_law_marks w A S1 kk r c _ _) (by kernel_rfl) (by decide) (fun _ => by exact ⟨hW1, hC, h1, h2, r1, r2, by omega, by omega⟩) (fun _ => by k_extra "mono") ?_)
    intro _ n2 hW2 hE2
    exact hret S1 n2 hW2 (hE1.trans hE2) ⟨by omega, by omega, by omega, by omega⟩
  · k_extra "w"
    refine Wb.retG (Go.callT (by kernel_rfl) (by k_is) (by k_is) (by k_extra "es") (fun τ => c_law_compare w A S1 kk r sort z c _ _ _ _) (by kernel_rfl) (by decide) (fun _ => by exact ⟨hW1, hC, hc3 rfl, r1, r2, y1, by omega, by omega, by omega⟩) (fun _ => by k_extra "mono") ?_)
    intro _ n2 hW2 hE2
    exact hret S1 n2 hW2 (hE1.trans hE2) ⟨by omega, by omega, by omega, by omega⟩


section
variable {prog : Program} {w : World} {A : Around} {E : Value → Shared → Prop} {s : Shared} {env : Env} {h₀ : Heap} {target : Expr} {x : Str} {body : List Stmt} {Q : Flow → Shared → Prop}
/-- a loop over a range, by what stands ahead of each turn -/
theorem range_inv {I : Addr} {a : Int} {n : Nat} (J : Nat → (Str → Option Value) → List (Addr × Obj) → Prop)
    (turn : ∀ i t m nx h tk, i < n → J i m nx → (∀ p ∈ nx, p.1 ≠ I) → Fr h₀ env.locals h (fun y => if y = x then some (.int (a + (i : Int)) t) else m y) →
      News h₀ env.locals h ((I, itR (a + ((i + 1 : Nat) : Int)) ((n : Int) - ((i + 1 : Nat) : Int))) :: nx) →
      wpAny (model prog w) A (execs body env) (UnrPost h₀ env.locals { s with heap := h, toks := tk } I (itR (a + ((i + 1 : Nat) : Int)) ((n : Int) - ((i + 1 : Nat) : Int))) (fun m' n' => J (i + 1) m' n') Q) E { s with heap := h, toks := tk })
    (done : ∀ m nx h tk, J n m nx → Fr h₀ env.locals h m → News h₀ env.locals h nx → Q .next { s with heap := h, toks := tk }) :
    ∀ k i m nx, i + k = n → J i m nx → (∀ p ∈ nx, p.1 ≠ I) → RangeRest prog w A E h₀ env x body Q s I a n k i m nx
  | 0, i, m, nx, e, hj, _ => fun h tk F N => done m nx h tk (by rw [← e]; exact hj) F N
  | k + 1, i, m, nx, e, hj, ho => fun t h tk F N => by
    refine wpAny_mono (turn i t m nx h tk (by omega) hj ho F N) (fun f s₂ p => ?_) fun _ _ x => x
    cases f with
    | ret v => exact p
    | brk => exact p
    | next => obtain ⟨h', tk', m', n', e', F', N', o', j'⟩ := p; exact ⟨h', tk', m', n', e', F', N', o', range_inv J turn done k (i + 1) m' n' (by omega) j' o'⟩
    | cont => obtain ⟨h', tk', m', n', e', F', N', o', j'⟩ := p; exact ⟨h', tk', m', n', e', F', N', o', range_inv J turn done k (i + 1) m' n' (by omega) j' o'⟩
/-- a loop over a list's items, by what stands ahead of each turn -/
theorem items_inv {I : Addr} {it : String} {l : Addr} {lo : Obj} (J : List Value → (Str → Option Value) → List (Addr × Obj) → Prop)
    (turn : ∀ v r m nx h tk oI, J (v :: r) m nx → oI.cls = .type it → Fr h₀ env.locals h m → News h₀ env.locals h ((I, oI) :: nx) →
      wpAny (model prog w) A (assign target env v) (fun _ s₂ => wpAny (model prog w) A (execs body env) (UnrPostW h₀ env.locals { s with heap := h, toks := tk } [(I, oI)] (fun m' n' => (l, lo) ∈ n' ∧ J r m' n') Q) E s₂) E { s with heap := h, toks := tk })
    (done : ∀ m nx h tk, J [] m nx → Fr h₀ env.locals h m → News h₀ env.locals h nx → Q .next { s with heap := h, toks := tk }) :
    ∀ vs m nx, J vs m nx → ItemsRest prog w A E h₀ env target body Q s [(I, it)] [(l, lo)] (vs.map .val) m nx
  | [], m, nx, hj => fun h tk F N => done m nx h tk hj F N
  | v :: r, m, nx, hj => ItemsRest.val fun h tk F => AllObj.cons fun oI hc => AllObj.nil fun N => by
    refine wpAny_mono (turn v r m nx h tk oI hj hc F N) (fun _ s₂ h₂ => wpAny_mono h₂ (fun f s₃ p => ?_) fun _ _ x => x) fun _ _ x => x
    cases f with
    | ret v => exact p
    | brk => exact p
    | next => obtain ⟨h', tk', m', n', e', F', N', o', l', j'⟩ := p; exact ⟨h', tk', m', n', e', F', N', o', ⟨l', trivial⟩, items_inv J turn done r m' n' j'⟩
    | cont => obtain ⟨h', tk', m', n', e', F', N', o', l', j'⟩ := p; exact ⟨h', tk', m', n', e', F', N', o', ⟨l', trivial⟩, items_inv J turn done r m' n' j'⟩
end
/-- the ledger without one address -/
noncomputable abbrev off (I : Addr) (l : List (Addr × Obj)) : List (Addr × Obj) := l.filter fun p => p.1 != I
theorem mem_off {I a : Addr} {o : Obj} {l : List (Addr × Obj)} (h : (a, o) ∈ l) (hn : a ≠ I) : (a, o) ∈ off I l := List.mem_filter.mpr ⟨h, by simpa using hn⟩
theorem off_ne {I : Addr} {l : List (Addr × Obj)} : ∀ p ∈ off I l, p.1 ≠ I := fun p hp => by simpa using (List.mem_filter.mp hp).2
theorem off_sub {I : Addr} {l : List (Addr × Obj)} : ∀ p ∈ off I l, p ∈ l := fun p hp => (List.mem_filter.mp hp).1
/-- an object of another class does not stand at I -/
theorem ne_of_cls {h₀ h : Heap} {L I a : Addr} {oI o : Obj} {l : List (Addr × Obj)} (N : News h₀ L h l) (hI : (I, oI) ∈ l) (ha : (a, o) ∈ l) (hc : o.cls ≠ oI.cls) : a ≠ I := fun e => by
  subst e
  have h1 := (N _ hI).1
  have h2 := (N _ ha).1
  exact hc (congrArg Obj.cls (Option.some.inj (h2.symm.trans h1)))
theorem isdict_cls {p : Program} {w : World} {K : Type} [DecidableEq K] {knd : KeyKind p w K} {o : Obj} {l : List (K × Value)} (h : o.IsDictOf knd l) : o.cls = .type "dict" := by
  obtain ⟨_, _, hc, _⟩ := h
  exact hc.1
theorem Fz.off {A : Ad} {I x : Addr} {oI o : Obj} {news : List (Addr × Obj)} {h₀ h : Heap} {L : Addr} (f : Fz A news x o) (N : News h₀ L h news) (hI : (I, oI) ∈ news) (hc : o.cls ≠ oI.cls) : Fz A (off I news) x o :=
  ⟨mem_off f.1 (ne_of_cls N hI f.1 hc), f.2⟩
theorem cls_inst {c d : Addr} {it : String} : (instObj c d).cls ≠ Value.type it := fun e => by cases e
/-- the class of an iterator: no object of the world's -/
noncomputable def ItC (c : Value) : Prop := c ≠ .type "dict" ∧ c ≠ .type "list" ∧ c ≠ .type "tuple" ∧ ∀ a, c ≠ .ref a
theorem itc_list : ItC (.type "list_iterator") := ⟨by decide, by decide, by decide, fun _ h => by cases h⟩
theorem itc_tup : ItC (.type "tuple_iterator") := ⟨by decide, by decide, by decide, fun _ h => by cases h⟩
theorem Wd.off {w : World} {A : Ad} {S : St} {news : List (Addr × Obj)} {I L : Addr} {oI : Obj} {h₀ h : Heap} (H : Wd w A S news) (N : News h₀ L h news) (hI : (I, oI) ∈ news) (hc : ItC oI.cls) : Wd w A S (off I news) :=
  have inst : ∀ {c d x : Addr}, Fz A news x (instObj c d) → Fz A (Hd.off I news) x (instObj c d) := fun f => f.off N hI (fun e => hc.2.2.2 _ e.symm)
  have dict : ∀ {x : Addr} {es : List DictEntry} {n : Nat}, Fz A news x (dictOf es n) → Fz A (Hd.off I news) x (dictOf es n) := fun f => f.off N hI (fun e => hc.1 e.symm)
  have list : ∀ {x : Addr} {vs : Array Value} {n : Nat}, Fz A news x (listOf vs n) → Fz A (Hd.off I news) x (listOf vs n) := fun f => f.off N hI (fun e => hc.2.1 e.symm)
  have tup : ∀ {x : Addr} {vs : List Value}, Fz A news x (tp vs) → Fz A (Hd.off I news) x (tp vs) := fun f => f.off N hI (fun e => hc.2.2.1 e.symm)
  have rec_ : ∀ {cls : Addr} {r : TR}, RecIn A cls news r → RecIn A cls (Hd.off I news) r := fun r => ⟨inst r.inst, dict r.dict, list r.slots, r.gkind, r.gslots, r.len⟩
  have tb : ∀ i o, tab A S i = some o → o.cls ≠ oI.cls := fun i o ho => by
    have hd : ∀ {o : Obj}, o.cls = .type "dict" → o.cls ≠ oI.cls := fun e q => hc.1 (q.symm.trans e)
    have hl := tab_lt ho
    match i, ho with
    | 0, ho | 3, ho | 5, ho | 9, ho | 12, ho | 14, ho => cases ho; exact fun e => hc.2.2.2 _ e.symm
    | 1, ho | 4, ho | 6, ho | 10, ho | 13, ho | 15, ho => cases ho; exact hd rfl
    | 2, ho | 7, ho | 16, ho | 19, ho => cases ho; exact fun e => hc.2.1 e.symm
    | 8, ho => cases ho; exact hd (isdict_cls H.hat)
    | 11, ho => cases ho; exact hd (isdict_cls H.sta)
    | 17, ho => cases ho; exact hd (isdict_cls H.core)
    | 18, ho => cases ho; exact hd (isdict_cls H.wd)
    | n + 20, ho => cases ho
  { H with
    mem := fun i o ho => mem_off (H.mem i o ho) (ne_of_cls N hI (H.mem i o ho) (tb i o ho))
    rows := fun i hi => by obtain ⟨r, t, u, h1, h2⟩ := H.rows i hi; exact ⟨r, t, u, h1, tup h2⟩
    cores := fun i hi => by obtain ⟨y, d, es, n, t, h1, h2, h3, h4⟩ := H.cores i hi; exact ⟨y, d, es, n, t, h1, inst h2, dict h3, h4⟩
    things := fun i r hr => ⟨rec_ (H.things i r hr).rec_, (H.things i r hr).gaddr, (H.things i r hr).gsize⟩
    items := fun i r hr => rec_ (H.items i r hr)
    kepts := fun v hv => by
      obtain ⟨p, c, e, vs, us, cn, en, h1, h2, h3, h4, h5⟩ := (H.kepts v hv).ex
      refine ⟨p, c, e, vs, us, cn, en, h1, tup h2, list h3, list h4, ?_⟩
      cases h5 with
      | copy vs h => exact .copy _ h
      | num n t u => exact .num n t u
      | pair a b k n t u t' u' f g => exact .pair a b k n t u t' u' (tup f) (tup g) }
section
variable {prog : Program} {w : World} {A : Around} {E : Value → Shared → Prop} {s : Shared} {env : Env} {h₀ : Heap} {target : Expr} {x : Str} {body : List Stmt} {Q : Flow → Shared → Prop}
noncomputable def fkeep (ns : List Str) (u m₀ : Str → Option Value) : Str → Option Value := fun y => if ns.contains y then u y else m₀ y
theorem fkeep_of {ns : List Str} {m m₀ : Str → Option Value} (h : ∀ y, ns.contains y = false → m y = m₀ y) : m = fkeep ns m m₀ := by
  funext y
  unfold fkeep
  split
  · rfl
  · rename_i q
    exact h y (by simpa using q)
theorem range_keep {r : Addr} {a b : Int} {t₀ u₀ v₀ : Tok} {n : Nat} {m₀ : Str → Option Value} {news : List (Addr × Obj)} (ns : List Str) (hx : ns.contains x = true) (J : Addr → Nat → List (Addr × Obj) → Prop)
    (F : Fr h₀ env.locals s.heap m₀) (N : News h₀ env.locals s.heap news) (hh : A.handled = none) (hr : IsRange s.heap r a b 1 t₀ u₀ v₀) (hsmall : Builtin.Range.small a b 1 = true) (hn : Builtin.Range.rangeSize a b 1 = (n : Int))
    (h0 : ∀ I, (∀ p ∈ news, p.1 < I) → J I 0 news)
    (turn : ∀ I i t u nx h tk, i < n → J I i nx → (∀ p ∈ nx, p.1 ≠ I) → Fr h₀ env.locals h (fun y => if y = x then some (.int (a + (i : Int)) t) else fkeep ns u m₀ y) →
      News h₀ env.locals h ((I, itR (a + ((i + 1 : Nat) : Int)) ((n : Int) - ((i + 1 : Nat) : Int))) :: nx) →
      wpAny (model prog w) A (execs body env) (UnrPost h₀ env.locals { s with heap := h, toks := tk } I (itR (a + ((i + 1 : Nat) : Int)) ((n : Int) - ((i + 1 : Nat) : Int))) (fun m' n' => (∀ y, ns.contains y = false → m' y = m₀ y) ∧ J I (i + 1) n') Q) E { s with heap := h, toks := tk })
    (done : ∀ I u nx h tk, J I n nx → Fr h₀ env.locals h (fkeep ns u m₀) → News h₀ env.locals h nx → Q .next { s with heap := h, toks := tk }) :
    wpAny (model prog w) A (pyIter (.ref r)) (fun it s₂ => LoopAtV prog w A h₀ env x body Q E it s₂) E s :=
  iter_rangeUnr hh hr hsmall hn F N fun I hI => range_inv (fun i m nx => (∀ y, ns.contains y = false → m y = m₀ y) ∧ J I i nx)
    (fun i t m nx h tk hi hj ho F N => turn I i t m nx h tk hi hj.2 ho (by rw [← fkeep_of hj.1]; exact F) N)
    (fun m nx h tk hj F N => done I m nx h tk hj.2 (by rw [← fkeep_of hj.1]; exact F) N) n 0 m₀ news (Nat.zero_add _) ⟨fun _ _ => rfl, h0 I hI⟩ (fun p hp e => absurd (hI p hp) (by rw [e]; exact Nat.lt_irrefl _))
theorem list_keep {l : Addr} {lo : Obj} {vs : List Value} {n : Nat} {m₀ : Str → Option Value} {news : List (Addr × Obj)} (ns : List Str) (J : List Value → List (Addr × Obj) → Prop)
    (hh : A.handled = none) (F : Fr h₀ env.locals s.heap m₀) (N : News h₀ env.locals s.heap news) (hm : (l, lo) ∈ news) (hc : lo.cls = .type "list") (hd : lo.data = .seq vs.toArray n) (h0 : J vs news)
    (turn : ∀ v r u nx h tk I oI, J (v :: r) nx → oI.cls = .type "list_iterator" → Fr h₀ env.locals h (fkeep ns u m₀) → News h₀ env.locals h ((I, oI) :: nx) →
      wpAny (model prog w) A (assign target env v) (fun _ s₂ => wpAny (model prog w) A (execs body env) (UnrPostW h₀ env.locals { s with heap := h, toks := tk } [(I, oI)] (fun m' n' => (l, lo) ∈ n' ∧ (∀ y, ns.contains y = false → m' y = m₀ y) ∧ J r n') Q) E s₂) E { s with heap := h, toks := tk })
    (done : ∀ u nx h tk, J [] nx → Fr h₀ env.locals h (fkeep ns u m₀) → News h₀ env.locals h nx → Q .next { s with heap := h, toks := tk }) :
    wpAny (model prog w) A (pyIter (.ref l)) (fun it s₂ => TurnsAt prog w A h₀ env target body Q E it s₂) E s :=
  iter_listTurns hh F N hm hc hd fun I _ => items_inv (fun r m nx => (∀ y, ns.contains y = false → m y = m₀ y) ∧ J r nx)
    (fun v r m nx h tk oI hj hc' F' N' => turn v r m nx h tk I oI hj.2 hc' (by rw [← fkeep_of hj.1]; exact F') N')
    (fun m nx h tk hj F' N' => done m nx h tk hj.2 (by rw [← fkeep_of hj.1]; exact F') N') vs m₀ news ⟨fun _ _ => rfl, h0⟩
end
theorem KeptIn.off {A : Ad} {I L : Addr} {oI : Obj} {news : List (Addr × Obj)} {h₀ h : Heap} {v : Value} (k : KeptIn A news v) (N : News h₀ L h news) (hI : (I, oI) ∈ news) (hc : ItC oI.cls) : KeptIn A (Hd.off I news) v := by
  obtain ⟨p, c, e, vs, us, cn, en, h1, h2, h3, h4, h5⟩ := k.ex
  have tup : ∀ {x : Addr} {vs : List Value}, Fz A news x (tp vs) → Fz A (Hd.off I news) x (tp vs) := fun f => f.off N hI (fun e => hc.2.2.1 e.symm)
  refine ⟨p, c, e, vs, us, cn, en, h1, tup h2, h3.off N hI (fun e => hc.2.1 e.symm), h4.off N hI (fun e => hc.2.1 e.symm), ?_⟩
  cases h5 with
  | copy vs h => exact .copy _ h
  | num n t u => exact .num n t u
  | pair a b k n t u t' u' f g => exact .pair a b k n t u t' u' (tup f) (tup g)
section
variable {prog : Program} {w : World} {A : Around} {E : Value → Shared → Prop} {s : Shared} {env : Env} {h₀ : Heap} {target : Expr} {body : List Stmt} {Q : Flow → Shared → Prop}
theorem tup_keep {l : Addr} {vs : List Value} {m₀ : Str → Option Value} {news : List (Addr × Obj)} (ns : List Str) (J : List Value → List (Addr × Obj) → Prop)
    (hh : A.handled = none) (F : Fr h₀ env.locals s.heap m₀) (N : News h₀ env.locals s.heap news) (hm : (l, tp vs) ∈ news) (h0 : J vs news)
    (turn : ∀ v r u nx h tk I oI, J (v :: r) nx → oI.cls = .type "tuple_iterator" → Fr h₀ env.locals h (fkeep ns u m₀) → News h₀ env.locals h ((I, oI) :: nx) →
      wpAny (model prog w) A (assign target env v) (fun _ s₂ => wpAny (model prog w) A (execs body env) (UnrPostW h₀ env.locals { s with heap := h, toks := tk } [(I, oI)] (fun m' n' => (l, tp vs) ∈ n' ∧ (∀ y, ns.contains y = false → m' y = m₀ y) ∧ J r n') Q) E s₂) E { s with heap := h, toks := tk })
    (done : ∀ u nx h tk, J [] nx → Fr h₀ env.locals h (fkeep ns u m₀) → News h₀ env.locals h nx → Q .next { s with heap := h, toks := tk }) :
    wpAny (model prog w) A (pyIter (.ref l)) (fun it s₂ => TurnsAt prog w A h₀ env target body Q E it s₂) E s :=
  iter_tupTurns (n := 0) hh F N hm rfl rfl fun I _ => items_inv (fun r m nx => (∀ y, ns.contains y = false → m y = m₀ y) ∧ J r nx)
    (fun v r m nx h tk oI hj hc' F' N' => turn v r m nx h tk I oI hj.2 hc' (by rw [← fkeep_of hj.1]; exact F') N')
    (fun m nx h tk hj F' N' => done m nx h tk hj.2 (by rw [← fkeep_of hj.1]; exact F') N') vs m₀ news ⟨fun _ _ => rfl, h0⟩
end


section
variable {w : World} {D : Nat} {c : Cx} {cs : Scope} {mm : Locs} {news : Led}
/-- an expression that makes a range object -/
noncomputable def RgX (w : World) (D : Nat) (c : Cx) (cs : Scope) (mm : Locs) (news : Led) (e : PySem.Expr) (a b : Int) : Prop :=
  Ok w D c cs → ∀ (s : Shared) (Q : Value → Shared → Prop) (E : Value → Shared → Prop), Sta c mm news s.heap →
    (∀ r h' tk t₁ u₁ v₁, IsRange h' r a b 1 t₁ u₁ v₁ → Sta c mm news h' → Q (.ref r) { s with heap := h', toks := tk }) → wpAny (model pg w) (c.ar cs) (eval e (c.env cs)) Q E s
theorem RgX.one {x : Str} {np pos : Pos} {e : PySem.Expr} {b : Int} (ho : globOk cs x = true) (hn : nsIn (KF w.params) mainGlobals x = some Option.none) (hb : bootBuiltins x = some (.type "range")) (hx : x ≠ Str.ofString "__name__")
    (he : Ev w D c cs mm news e fun t => .int b t) (hs : notStar e = true) : RgX w D c cs mm news (.Call (.Name x np) [e] [] pos) 0 b :=
  fun O s Q E S q => by
    refine Call_ ((Ev.bltn ho hn hb hx (V := fun _ => .type "range") ⟨0, rfl⟩).go O S fun _ h1 tk1 S1 => ?_)
    refine Pv.callWith_type1 ?_ (notStar_of hs) rfl
    refine args_cons (he.go O S1 fun t h2 tk2 S2 => args_nil ?_) (notStar_of hs)
    obtain ⟨m, F, hmm, N⟩ := S2.open'
    exact range1_rows (s := { s with heap := h2, toks := tk2 }) F N fun h' tk t₁ u₁ v₁ hr F' N' _ => q _ h' tk t₁ u₁ v₁ hr ⟨⟨m, F', hmm⟩, N'⟩
theorem RgX.two {x : Str} {np pos : Pos} {e1 e2 : PySem.Expr} {a b : Int} (ho : globOk cs x = true) (hn : nsIn (KF w.params) mainGlobals x = some Option.none) (hb : bootBuiltins x = some (.type "range")) (hx : x ≠ Str.ofString "__name__")
    (h1 : Ev w D c cs mm news e1 fun t => .int a t) (h2 : Ev w D c cs mm news e2 fun t => .int b t) (hs1 : notStar e1 = true) (hs2 : notStar e2 = true) : RgX w D c cs mm news (.Call (.Name x np) [e1, e2] [] pos) a b :=
  fun O s Q E S q => by
    refine Call_ ((Ev.bltn ho hn hb hx (V := fun _ => .type "range") ⟨0, rfl⟩).go O S fun _ g1 tk1 S1 => ?_)
    refine Pv.callWith_type1 ?_ (notStar_of hs1) (by
      show (backTo pos (starEach [e2] (c.env cs))).any (·.1) = false
      rw [notStar_of hs2]; rfl)
    refine args_cons (h1.go O S1 fun t g2 tk2 S2 => args_cons (h2.go (s := { s with heap := g2, toks := tk2 }) O S2 fun u g3 tk3 S3 => args_nil ?_) (notStar_of hs2)) (notStar_of hs1)
    obtain ⟨m, F, hmm, N⟩ := S3.open'
    exact range2_rows (s := { s with heap := g3, toks := tk3 }) F N fun h' tk t₁ u₁ v₁ hr F' N' _ => q _ h' tk t₁ u₁ v₁ hr ⟨⟨m, F', hmm⟩, N'⟩
/-- a loop over a range, by what stands ahead of each turn; I: its iterator -/
theorem Wb.forR {x : Str} {px pos : Pos} {iter : PySem.Expr} {body rest : List Stmt} {a b : Int} {n : Nat} {kn : Locs → Led → Prop} {k : Value → Led → Prop} (hi : RgX w D c cs mm news iter a b) (hx : locOk cs x = true) (hsm : Builtin.Range.small a b 1 = true) (hn : Builtin.Range.rangeSize a b 1 = (n : Int))
    (hs : ∀ x, foldedSetIterable iter (c.env cs) x = pure x) (J : Nat → Addr → Locs → Led → Prop) (h0 : ∀ I, (∀ p ∈ news, p.1 < I) → J 0 I mm news)
    (turn : ∀ I i m₁ n₁, i < n → J i I m₁ n₁ → (∀ p ∈ n₁, p.1 ≠ I) → Wb w D c cs ((x, fun t => .int (a + (i : Int)) t) :: m₁) ((I, itR (a + ((i + 1 : Nat) : Int)) ((n : Int) - ((i + 1 : Nat) : Int))) :: n₁) body
      (fun m' n' => ∃ n2, (∀ p ∈ (I, itR (a + ((i + 1 : Nat) : Int)) ((n : Int) - ((i + 1 : Nat) : Int))) :: n2, p ∈ n') ∧ (∀ p ∈ n2, p.1 ≠ I) ∧ J (i + 1) I m' n2) k)
    (done : ∀ I m₁ n₁, J n I m₁ n₁ → Wb w D c cs m₁ n₁ rest kn k) : Wb w D c cs mm news (.For (.Name x px) iter body [] pos :: rest) kn k :=
  Wb.cons fun O s Q E S qn qr => by
    obtain ⟨m, F, hmm, N⟩ := S.open'
    refine wpAny_mono (E := fun _ _ => False) (For_invVF F (locOk_of hx).1 (by show (cs.kind == .class || (cs.kind == .module && _)) = false; rw [O.kind]; rfl) (hi O s _ _ S fun r h1 tk1 t1 u1 v1 hr S1 => ?_) hs PassesOwn.never) (fun _ _ x => x) fun _ _ x => x.elim
    obtain ⟨m1, F1, hmm1, N1⟩ := S1.open'
    refine iter_rangeUnr (s := { s with heap := h1, toks := tk1 }) rfl hr hsm hn F1 N1 fun I hI => range_inv (fun i m' nx => ∃ mm', (∀ x V, mm'.lookup x = some V → ∃ t, m' x = some (V t)) ∧ J i I mm' nx) (fun i t m' nx h tk hlt ⟨mm', ha, hj⟩ ho F2 N2 => ?_) (fun m' nx h tk ⟨mm', ha, hj⟩ F2 N2 => qn mm' nx h tk ⟨⟨m', F2, ha⟩, N2⟩ (done I mm' nx hj)) n 0 m1 news (Nat.zero_add _) ⟨mm, hmm1, h0 I hI⟩ (fun p hp e => absurd (hI p hp) (by rw [e]; exact Nat.lt_irrefl _))
    refine turn I i mm' nx hlt hj ho O { s with heap := h, toks := tk } _ _ (Sta.set ha F2 N2) (fun mm2 n2 h2 tk2 S2 ⟨n3, hsub, hne, hj'⟩ => ?_) (fun v n2 h2 tk2 S2 kv => qr v n2 h2 tk2 S2 kv)
    obtain ⟨m2, F3, hmm3, N3⟩ := S2.open'
    exact UnrEnd.intro F3 N3 n3 hsub hne ⟨mm2, hmm3, hj'⟩
end


theorem tab_foc {w : World} {news : List (Addr × Obj)} {h₀ h : Heap} {L a ix : Addr} {rs rs' : List Value} {rn rn' : Nat} {D : List (PyData × PyData)} (T : TupTab (intKind pg w) PyData.int news ix D) (N : News h₀ L h news) (ha : (a, listOf rs.toArray rn) ∈ news) (hx : ix ≠ a) :
    TupTab (intKind pg w) PyData.int (Hd.foc a (listOf rs'.toArray rn') news) ix D := by
  obtain ⟨lo, o, es, ep, xs, hm, hc, hd, he, hn, hk, hf⟩ := T
  refine ⟨lo, o, es, ep, xs, List.mem_cons_of_mem _ (mem_foc hm hx), hc, hd, he, hn, fun x hx => ?_, hf⟩
  obtain ⟨ok, h1, h2⟩ := hk x hx
  refine ⟨ok, List.mem_cons_of_mem _ (mem_foc h1 fun e => ?_), h2⟩
  have q1 := (N _ h1).1
  have q2 := (N _ ha).1
  dsimp only at q1 q2
  rw [e, q2] at q1
  have := h2.1
  rw [← Option.some.inj q1] at this
  exact absurd this (by show Value.type "list" ≠ Value.type "tuple"; decide)
theorem append_tab {w : World} {A : Around} {E : Value → Shared → Prop} {s : Shared} {h₀ : Heap} {L a ix : Addr} {m : Str → Option Value} {news : List (Addr × Obj)} {rs : List Value} {n : Nat} {D : List (PyData × PyData)} {x : Value} {Q : Value → Shared → Prop} (F : Fr h₀ L s.heap m) (N : News h₀ L s.heap news)
    (hm : (a, listOf rs.toArray n) ∈ news) (hz : rs.length ≤ sizeLine) (T : TupTab (intKind pg w) PyData.int news ix D) (hx : ix ≠ a)
    (h : ∀ h', Fr h₀ L h' m → News h₀ L h' (Hd.foc a (listOf (rs ++ [x]).toArray (n + 1)) news) → TupTab (intKind pg w) PyData.int (Hd.foc a (listOf (rs ++ [x]).toArray (n + 1)) news) ix D → Q .none { s with heap := h' }) :
    wpAny (model pg w) A (call (.builtin "list.append") [.ref a, x]) Q E s := append_news F N hm hz fun h' F' N' => h h' F' N' (tab_foc T N hm hx)
theorem tab_off {w : World} {news : List (Addr × Obj)} {h₀ h : Heap} {L I ix : Addr} {oI : Obj} {D : List (PyData × PyData)} (T : TupTab (intKind pg w) PyData.int news ix D) (N : News h₀ L h news) (hI : (I, oI) ∈ news) (hc : oI.cls ≠ .type "tuple") (hx : ix ≠ I) :
    TupTab (intKind pg w) PyData.int (Hd.off I news) ix D := by
  obtain ⟨lo, o, es, ep, xs, hm, hc', hd, he, hn, hk, hf⟩ := T
  refine ⟨lo, o, es, ep, xs, mem_off hm hx, hc', hd, he, hn, fun x hx => ?_, hf⟩
  obtain ⟨ok, h1, h2⟩ := hk x hx
  exact ⟨ok, mem_off h1 (ne_of_cls N hI h1 (h2.1 ▸ hc.symm)), h2⟩
theorem putD_le {k v : PyData} {D : List (PyData × PyData)} {i : Nat} (h : D.length ≤ i) : (PyProof.V.putD k v D).length ≤ i + 1 := Nat.le_trans (PyProof.V.putD_length_le k v D) (Nat.succ_le_succ h)
theorem app_le {l : List Value} {v : Value} {i : Nat} (h : l.length ≤ i) : (l ++ [v]).length ≤ i + 1 := by rw [List.length_append]; exact Nat.succ_le_succ h
section
variable {w : World} {D : Nat} {c : Cx} {cs : Scope} {mm : Locs} {news : Led}
/-- an append beside a table by tuples -/
theorem Go.appendTab {o e : PySem.Expr} {apos pos : Pos} {a ix : Addr} {l : List Value} {n : Nat} {nm : Str} {V : Tok → Value} {T : List (PyData × PyData)} {K : Value → Led → Prop} (ho : Ev w D c cs mm news o fun _ => .ref a) (he : Ev w D c cs mm news e V) (hm : (a, listOf l.toArray n) ∈ news)
    (hx : nm = Str.ofString "append") (hz : l.length ≤ sizeLine) (hT : TupTab (intKind pg w) PyData.int news ix T) (hne : ix ≠ a) (hc : methOk o apos pos [e] = true) (h : ∀ t, TupTab (intKind pg w) PyData.int (foc a (listOf (l ++ [V t]).toArray (n + 1)) news) ix T → K .none (foc a (listOf (l ++ [V t]).toArray (n + 1)) news)) :
    Go w D c cs mm news (eval (.Call (.Attribute o nm apos) [e] [] pos) (c.env cs)) K :=
  fun O s Q E S q => by
    subst hx
    have hs : notStar e = true := by
      have := (Bool.and_eq_true_iff.mp (Bool.and_eq_true_iff.mp hc).1).2
      exact (Bool.and_eq_true_iff.mp this).1
    refine MethodCall_ (ho.go O S fun t h1 tk1 S1 => ?_) (meth_eq hc)
    refine kl_method (its := l.toArray) (n := n) S1.news hm PySem.F.slot_list_append PySem.F.type_list_append ?_
    refine callWith_method1 ?_ (notStar_of hs) rfl
    refine args_cons (he.go O S1 fun u h2 tk2 S2 => args_nil ?_) (notStar_of hs)
    obtain ⟨m, F, hmm, N⟩ := S2.open'
    exact append_tab (s := { s with heap := h2, toks := tk2 }) F N hm hz hT hne fun h3 F3 N3 T3 => q .none _ h3 tk2 ⟨⟨m, F3, hmm⟩, N3⟩ (h u T3)
/-- d[row] = value, row a tuple of two ints -/
theorem Wb.setTab {o i value : PySem.Expr} {ip pos : Pos} {ix a : Addr} {T : List (PyData × PyData)} {p1 p2 v : Int} {t1 t2 : Tok} {rest : List Stmt} {kn : Locs → Led → Prop} {k : Value → Led → Prop} (hv : Ev w D c cs mm news value fun t => .int v t) (ho : Ev w D c cs mm news o fun _ => .ref ix) (hi : Ev w D c cs mm news i fun _ => .ref a)
    (hD : 1 ≤ D) (hm : (a, tp [.int p1 t1, .int p2 t2]) ∈ news) (hT : TupTab (intKind pg w) PyData.int news ix T) (hz : T.length ≤ 1000) (hs : swapsWith value (some (.Subscript o i ip)) pos.line (c.env cs) = pure false)
    (h : ∀ T' n', T'.length ≤ T.length + 1 → TupTab (intKind pg w) PyData.int n' ix T' → (a, tp [.int p1 t1, .int p2 t2]) ∈ n' → (∀ p ∈ news, p.1 ≠ ix → p ∈ n') → Wb w D c cs mm n' rest kn k) : Wb w D c cs mm news (.Assign [.Subscript o i ip] value pos :: rest) kn k :=
  Wb.cons fun O s Q E S qn _ => wpAny_Assign_Subscript (hv.go O S fun t h1 tk1 S1 => ho.go (s := { s with heap := h1, toks := tk1 }) O S1 fun _ h2 tk2 S2 => hi.go (s := { s with heap := h2, toks := tk2 }) O S2 fun u h3 tk3 S3 => by
    obtain ⟨m, F, hmm, N⟩ := S3.open'
    exact setItem_tupTab (s := { s with heap := h3, toks := tk3 }) (knd := intKind _ _) (enc := PyData.int) PyProof.V.same_int (by have := O.ru; show c.un + 1 < cLine; omega) (PyProof.V.Flat.int _ _) F N hT hm (TupKeyObj.made (by tuptab_items_int)) (fun h' n' F' N' T' m' k' => qn mm n' h' _ ⟨⟨m, F', hmm⟩, N'⟩ (h _ n' (PyProof.V.putD_length_le _ _ _) T' m' k')) (by rw [sizeLine_eq]; omega)) hs
/-- the loop over a range where what stands ahead of a turn outlives the iterator's going by the state alone -/
theorem Wb.forN {x : Str} {px pos : Pos} {iter : PySem.Expr} {body rest : List Stmt} {a b : Int} {n : Nat} {kn : Locs → Led → Prop} {k : Value → Led → Prop} (hi : RgX w D c cs mm news iter a b) (hx : locOk cs x = true) (hsm : Builtin.Range.small a b 1 = true) (hn : Builtin.Range.rangeSize a b 1 = (n : Int))
    (hs : ∀ x, foldedSetIterable iter (c.env cs) x = pure x) (J : Nat → Addr → Locs → Led → Prop) (h0 : ∀ I, (∀ p ∈ news, p.1 < I) → J 0 I mm news)
    (hoff : ∀ i I m₁ n₁ o h, i ≤ n → o.cls = .type "range_iterator" → (I, o) ∈ n₁ → News c.h₀ c.L h n₁ → J i I m₁ n₁ → J i I m₁ (Hd.off I n₁))
    (turn : ∀ I i m₁ n₁, i < n → J i I m₁ n₁ → Wb w D c cs ((x, fun t => .int (a + (i : Int)) t) :: m₁) ((I, itR (a + ((i + 1 : Nat) : Int)) ((n : Int) - ((i + 1 : Nat) : Int))) :: n₁) body
      (fun m' n' => (I, itR (a + ((i + 1 : Nat) : Int)) ((n : Int) - ((i + 1 : Nat) : Int))) ∈ n' ∧ J (i + 1) I m' n') k)
    (done : ∀ I m₁ n₁, J n I m₁ n₁ → Wb w D c cs m₁ n₁ rest kn k) : Wb w D c cs mm news (.For (.Name x px) iter body [] pos :: rest) kn k :=
  Wb.cons fun O s Q E S qn qr => by
    obtain ⟨m, F, hmm, N⟩ := S.open'
    refine wpAny_mono (E := fun _ _ => False) (For_invVF F (locOk_of hx).1 (by show (cs.kind == .class || (cs.kind == .module && _)) = false; rw [O.kind]; rfl) (hi O s _ _ S fun r h1 tk1 t1 u1 v1 hr S1 => ?_) hs PassesOwn.never) (fun _ _ x => x) fun _ _ x => x.elim
    obtain ⟨m1, F1, hmm1, N1⟩ := S1.open'
    refine iter_rangeUnr (s := { s with heap := h1, toks := tk1 }) rfl hr hsm hn F1 N1 fun I hI => range_inv (fun i m' nx => i ≤ n ∧ ∃ mm', (∀ x V, mm'.lookup x = some V → ∃ t, m' x = some (V t)) ∧ J i I mm' nx) (fun i t m' nx h tk hlt ⟨_, mm', ha, hj⟩ ho F2 N2 => ?_) (fun m' nx h tk ⟨_, mm', ha, hj⟩ F2 N2 => qn mm' nx h tk ⟨⟨m', F2, ha⟩, N2⟩ (done I mm' nx hj)) n 0 m1 news (Nat.zero_add _) ⟨Nat.zero_le _, mm, hmm1, h0 I hI⟩ (fun p hp e => absurd (hI p hp) (by rw [e]; exact Nat.lt_irrefl _))
    refine turn I i mm' nx hlt hj O { s with heap := h, toks := tk } _ _ (Sta.set ha F2 N2) (fun mm2 n2 h2 tk2 S2 ⟨hIm, hj'⟩ => ?_) (fun v n2 h2 tk2 S2 kv => qr v n2 h2 tk2 S2 kv)
    obtain ⟨m2, F3, hmm3, N3⟩ := S2.open'
    exact UnrEnd.intro F3 N3 (Hd.off I n2) (fun p hp => by
      rcases List.mem_cons.mp hp with rfl | hp
      · exact hIm
      · exact off_sub _ hp) off_ne ⟨hlt, mm2, hmm3, hoff (i + 1) I mm2 n2 _ h2 hlt rfl hIm N3 hj'⟩
theorem Wi.wb {C : Addr} {n0 : Led} {x d : Addr} {fs : Locs} {ns : List Str} {led : Led} {k : Locs → List Str → Led → Prop} {ss : List Stmt} (h : ∀ news, Bs C n0 x d fs ns led news → Wb w D c cs mm news ss (fun _ n' => ∃ fs' ns' led', Bs C n0 x d fs' ns' led' n' ∧ k fs' ns' led') fun _ _ => False) : Wi w D c cs C n0 x d mm fs ns led ss k :=
  fun O s Q E news S B q => h news B O s Q E S (fun mm' n' h' tk' S' ⟨fs', ns', led', B', kv⟩ => q mm' fs' ns' led' n' h' tk' S' B' kv) fun _ _ _ _ _ x => x.elim
end
/-- the table of kinds while its rows are laid -/
structure KtJ (w : World) (base : List (Addr × Obj)) (x d rl ix dl wl ol : Addr) (es : List DictEntry) (en i : Nat) (nx : List (Addr × Obj)) : Prop where
  sub : ∀ p ∈ base, p ∈ nx
  inst : (x, instObj 122 d) ∈ nx
  dict : (d, dictOf es en) ∈ nx
  ex : ∃ rs rn ds dn ws wn os on D, (rl, listOf (rs : List Value).toArray rn) ∈ nx ∧ rs.length = i ∧ (∀ j : Nat, j < i → ∃ y t u, rs[j]? = some (.ref y) ∧ (y, tp [.int 1 t, .int j u]) ∈ nx ∧ @LT.lt Nat _ ol y) ∧
    (dl, listOf (ds : List Value).toArray dn) ∈ nx ∧ ds.length ≤ i ∧ (wl, listOf (ws : List Value).toArray wn) ∈ nx ∧ ws.length ≤ i ∧ (ol, listOf (os : List Value).toArray on) ∈ nx ∧ os.length ≤ i ∧
    TupTab (intKind pg w) PyData.int nx ix D ∧ D.length ≤ i
theorem KtJ.off {w : World} {base : Led} {x d rl ix dl wl ol I : Addr} {es : List DictEntry} {en i : Nat} {nx : Led} {oI : Obj} {h₀ h : Heap} {L : Addr} (H : KtJ w base x d rl ix dl wl ol es en i nx) (N : News h₀ L h nx) (hI : (I, oI) ∈ nx) (hc : oI.cls = .type "range_iterator") (hb : ∀ p ∈ base, @LT.lt Nat _ p.1 I) (hix : @LT.lt Nat _ ix I) : KtJ w base x d rl ix dl wl ol es en i (Hd.off I nx) := by
  obtain ⟨q1, q2, q3, rs, rn, ds, dn, ws, wn, os, on, D, p1, p2, p3, p4, p5, p6, p7, p8, p9, p10, p11⟩ := H
  have hl : ∀ {a : Addr} {vs : List Value} {n : Nat}, (a, listOf vs.toArray n) ∈ nx → (a, listOf vs.toArray n) ∈ Hd.off I nx := fun m => mem_off m (ne_of_cls N hI m (by rw [hc]; show Value.type "list" ≠ _; decide))
  refine ⟨fun p hp => mem_off (q1 p hp) (Nat.ne_of_lt (hb p hp)), mem_off q2 (ne_of_cls N hI q2 (by rw [hc]; exact fun e => by cases e)), mem_off q3 (ne_of_cls N hI q3 (by rw [hc]; show Value.type "dict" ≠ _; decide)), rs, rn, ds, dn, ws, wn, os, on, D, hl p1, p2, fun j hj => ?_, hl p4, p5, hl p6, p7, hl p8, p9, tab_off p10 N hI (by rw [hc]; decide) (Nat.ne_of_lt hix), p11⟩
  obtain ⟨y, t, u, g1, g2, g3⟩ := p3 j hj
  exact ⟨y, t, u, g1, mem_off g2 (ne_of_cls N hI g2 (by rw [hc]; show Value.type "tuple" ≠ _; decide)), g3⟩
theorem c_kt (w : World)  : CC w (1 + 2) 122 [] (fun _ => True) (fun news k => ∀ x d r es en rs rn news', (∀ p ∈ news, p ∈ news') → (∀ p ∈ news, @LT.lt Nat _ p.1 d) → @LT.lt Nat _ d x → @LT.lt Nat _ x r → (x, instObj 122 d) ∈ news' → (d, dictOf es en) ∈ news' → getL (Str.ofString "rows") es = some (some (.ref r)) → getL (Str.ofString "row") es = some none → (r, listOf (rs : List Value).toArray rn) ∈ news' → rs.length = 16 → (∀ j : Nat, j < 16 → ∃ y t u, rs[j]? = some (.ref y) ∧ (y, tp [.int 1 t, .int j u]) ∈ news' ∧ @LT.lt Nat _ r y) → k (.ref x) news') := by
  refine cc_cls (fun x => [(Str.ofString "self", .ref x)]) (by k_is) (by k_is) (by k_is) (by k_is) (by k_is) (by intro _; kernel_rfl) (by intro _; k_extra "isb") (by intro _; kernel_rfl) (by kernel_rfl) (by kernel_rfl) (by kernel_rfl) (by kernel_rfl) ?_
  intro cx news kz x dx hp hk lx ly
  have qC : ClsOk (KF w.params) 122 := ⟨by k_is, by k_is, by k_is⟩
  refine Wi.setL (by k_extra "nm") (by kernel_rfl) (fun _ _ => EvL.nil) (by kernel_rfl) ?_
  intro rl τ0 _ xrl
  refine Wi.setD (by k_extra "nm") (by kernel_rfl) ?_
  intro ix o lix _ six iix
  refine Wi.setL (by k_extra "nm") (by kernel_rfl) (fun _ _ => EvL.nil) (by kernel_rfl) ?_
  intro dl τ1 ldl _
  refine Wi.setL (by k_extra "nm") (by kernel_rfl) (fun _ _ => EvL.nil) (by kernel_rfl) ?_
  intro wl τ2 lwl _
  refine Wi.setL (by k_extra "nm") (by kernel_rfl) (fun _ _ => EvL.nil) (by kernel_rfl) ?_
  intro ol τ3 lol _
  dsimp only [app] at *
  refine Wi.wb fun n1 B => ?_
  obtain ⟨es, en, B1, B2, B3⟩ := B.ex
  obtain ⟨_, g1⟩ := B2 (Str.ofString "rows") _ rfl
  obtain ⟨_, g2⟩ := B2 (Str.ofString "index") _ rfl
  obtain ⟨_, g3⟩ := B2 (Str.ofString "depths") _ rfl
  obtain ⟨_, g4⟩ := B2 (Str.ofString "weights") _ rfl
  obtain ⟨_, g5⟩ := B2 (Str.ofString "opens") _ rfl
  have o0 : @LT.lt Nat _ dx x := B1.dx
  have o1 : @LT.lt Nat _ rl ix := lix (rl, _) (.head _)
  have o2 : @LT.lt Nat _ ix dl := ldl (ix, _) (.head _)
  have o3 : @LT.lt Nat _ dl wl := lwl (dl, _) (.head _)
  have o4 : @LT.lt Nat _ wl ol := lol (wl, _) (.head _)
  have mo : (ol, listOf ([] : List Value).toArray 0) ∈ n1 := B.m (.head _)
  have mw : (wl, listOf ([] : List Value).toArray 0) ∈ n1 := B.m (.tail _ (.head _))
  have md : (dl, listOf ([] : List Value).toArray 0) ∈ n1 := B.m (.tail _ (.tail _ (.head _)))
  have mi : (ix, o) ∈ n1 := B.m (.tail _ (.tail _ (.tail _ (.head _))))
  have mr : (rl, listOf ([] : List Value).toArray 0) ∈ n1 := B.m (.tail _ (.tail _ (.tail _ (.tail _ (.head _)))))
  refine Wb.forN (n := 16) (RgX.one (by kernel_rfl) (by k_is) (by boot_by_name) (by decide) (by k_extra "e") (by kernel_rfl)) (by kernel_rfl) (by decide) (by decide) (by intro _; rfl) (fun i I m' n' => m' = [(Str.ofString "self", fun _ => .ref x)] ∧ (∀ p ∈ n1, @LT.lt Nat _ p.1 I) ∧ KtJ w news x dx rl ix dl wl ol es en i n')
    (fun I hI => ⟨rfl, hI, B1.sub, B1.inst, B1.dict, [], 0, [], 0, [], 0, [], 0, [], mr, rfl, fun j hj => absurd hj (Nat.not_lt_zero _), md, Nat.le_refl _, mw, Nat.le_refl _, mo, Nat.le_refl _, TupTab.ofEmpty mi six iix, Nat.le_refl _⟩)
    (fun i I m' n' oI h _ hc hm N ⟨e1, hI, H⟩ => ⟨e1, hI, H.off N hm hc (fun p hp => hI p (B1.sub p hp)) (hI _ mi)⟩) ?_ ?_
  · rintro I i m' n' hi ⟨rfl, hI, q1, q2, q3, rs, rn, ds, dn, ws, wn, os, on, D, p1, p2, p3, p4, p5, p6, p7, p8, p9, p10, p11⟩
    have hn : ∀ p ∈ (I, itR (0 + ((i + 1 : Nat) : Int)) (((16 : Nat) : Int) - ((i + 1 : Nat) : Int))) :: n', True := fun _ _ => trivial
    refine Wb.assignP (by k_extra "es") (by kernel_rfl) (by kernel_rfl) (by exact rfl) ?_
    intro y τ hy
    dsimp only [app]
    have z0 : @LT.lt Nat _ ol y := hy (ol, _) (.tail _ p8)
    have zI : @LT.lt Nat _ ol I := hI _ mo
    have zy : @LT.lt Nat _ I y := hy (I, _) (.head _)
    have U2 : ∀ {a : Addr} {o : Obj}, (a, o) ∈ n' → a ≠ rl → (a, o) ∈ foc rl (listOf (rs ++ [Value.ref y]).toArray (rn + 1)) ((y, tp [Value.int 1 (τ 0), Value.int (0 + (i : Int)) (τ 1)]) :: (I, itR (0 + ((i + 1 : Nat) : Int)) (((16 : Nat) : Int) - ((i + 1 : Nat) : Int))) :: n') := fun m h => .tail _ (mem_foc (.tail _ (.tail _ m)) h)
    have ne : ∀ {a b : Addr}, @LT.lt Nat _ a b → a ≠ b := fun h => Nat.ne_of_lt h
    have en' : ∀ {a b : Addr}, @LT.lt Nat _ b a → a ≠ b := fun h => Nat.ne_of_gt h
    refine Wb.expr (Go.appendTab (a := rl) (Ev.attr (by k_extra "e") (.tail _ (.tail _ q2)) (.tail _ (.tail _ q3)) g1 ⟨0, rfl⟩ (by k_extra "at") (by kernel_rfl) (by kernel_rfl)) (V := fun _ => .ref y) (by k_extra "e") (.tail _ (.tail _ p1)) (by exact rfl) (by rw [p2, sizeLine_eq]; omega) ((p10.cons _).cons _) (en' o1) (by kernel_rfl) fun t T2 => ⟨trivial, ?_⟩) (by exact rfl) (by exact rfl)
    refine Wb.setTab (p1 := 1) (p2 := 0 + (i : Int)) (t1 := τ 0) (t2 := τ 1) (a := y) (by k_extra "e") (Ev.attr (by k_extra "e") (U2 q2 (ne xrl)) (U2 q3 (ne (by omega))) g2 ⟨0, rfl⟩ (by k_extra "at") (by kernel_rfl) (by kernel_rfl)) (by k_extra "e") (by decide) (.tail _ (mem_foc (.head _) (en' (by omega)))) T2 (by omega) (by exact rfl) ?_
    intro T' n3 hT' T3 my3 k3
    have U3 : ∀ {a : Addr} {o : Obj}, (a, o) ∈ n' → a ≠ rl → a ≠ ix → (a, o) ∈ n3 := fun m h1 h2 => k3 _ (U2 m h1) h2
    refine Wb.expr (Go.appendTab (a := dl) (Ev.attr (by k_extra "e") (U3 q2 (ne xrl) (ne (by omega))) (U3 q3 (ne (by omega)) (ne (by omega))) g3 ⟨0, rfl⟩ (by k_extra "at") (by kernel_rfl) (by kernel_rfl)) (by k_extra "e") (U3 p4 (en' (by omega)) (en' (by omega))) (by exact rfl) (by rw [sizeLine_eq]; omega) T3 (ne o2) (by kernel_rfl) fun t4 T4 => ⟨trivial, ?_⟩) (by exact rfl) (by exact rfl)
    have U4 : ∀ {a : Addr} {o : Obj}, (a, o) ∈ n3 → a ≠ dl → (a, o) ∈ foc dl (listOf (ds ++ [Value.int 1 t4]).toArray (dn + 1)) n3 := fun m h => .tail _ (mem_foc m h)
    refine Wb.expr (Go.appendTab (a := wl) (Ev.attr (by k_extra "e") (U4 (U3 q2 (ne xrl) (ne (by omega))) (ne (by omega))) (U4 (U3 q3 (ne (by omega)) (ne (by omega))) (ne (by omega))) g4 ⟨0, rfl⟩ (by k_extra "at") (by kernel_rfl) (by kernel_rfl)) (by k_extra "e") (U4 (U3 p6 (en' (by omega)) (en' (by omega))) (en' (by omega))) (by exact rfl) (by rw [sizeLine_eq]; omega) T4 (ne (by omega)) (by kernel_rfl) fun t5 T5 => ⟨trivial, ?_⟩) (by exact rfl) (by exact rfl)
    have U5 : ∀ {a : Addr} {o : Obj}, (a, o) ∈ n3 → a ≠ dl → a ≠ wl → (a, o) ∈ foc wl (listOf (ws ++ [Value.int 1 t5]).toArray (wn + 1)) (foc dl (listOf (ds ++ [Value.int 1 t4]).toArray (dn + 1)) n3) := fun m h h' => .tail _ (mem_foc (U4 m h) h')
    refine Wb.expr (Go.appendTab (a := ol) (Ev.attr (by k_extra "e") (U5 (U3 q2 (ne xrl) (ne (by omega))) (ne (by omega)) (ne (by omega))) (U5 (U3 q3 (ne (by omega)) (ne (by omega))) (ne (by omega)) (ne (by omega))) g5 ⟨0, rfl⟩ (by k_extra "at") (by kernel_rfl) (by kernel_rfl)) (by k_extra "e") (U5 (U3 p8 (en' (by omega)) (en' (by omega))) (en' (by omega)) (en' (by omega))) (by exact rfl) (by rw [sizeLine_eq]; omega) T5 (ne (by omega)) (by kernel_rfl) fun t6 T6 => ⟨trivial, ?_⟩) (by exact rfl) (by exact rfl)
    have U6 : ∀ {a : Addr} {o : Obj}, (a, o) ∈ n3 → a ≠ dl → a ≠ wl → a ≠ ol → (a, o) ∈ foc ol (listOf (os ++ [Value.int 0 t6]).toArray (on + 1)) (foc wl (listOf (ws ++ [Value.int 1 t5]).toArray (wn + 1)) (foc dl (listOf (ds ++ [Value.int 1 t4]).toArray (dn + 1)) n3)) := fun m h h' h'' => .tail _ (mem_foc (U5 m h h') h'')
    have V6 : ∀ {a : Addr} {o : Obj}, (a, o) ∈ n' → @LT.lt Nat _ a rl ∨ @LT.lt Nat _ ol a → (a, o) ∈ foc ol (listOf (os ++ [Value.int 0 t6]).toArray (on + 1)) (foc wl (listOf (ws ++ [Value.int 1 t5]).toArray (wn + 1)) (foc dl (listOf (ds ++ [Value.int 1 t4]).toArray (dn + 1)) n3)) := fun m h => by
      rcases h with h | h
      · exact U6 (U3 m (ne h) (ne (by omega))) (ne (by omega)) (ne (by omega)) (ne (by omega))
      · exact U6 (U3 m (en' (by omega)) (en' (by omega))) (en' (by omega)) (en' (by omega)) (en' h)
    refine Wb.locs' (mm' := [(Str.ofString "self", fun _ => .ref x)]) (by k_extra "loc") (Wb.nil ⟨?_, rfl, hI, ⟨?_, V6 q2 (.inl xrl), V6 q3 (.inl (by omega)), rs ++ [.ref y], rn + 1, ds ++ [.int 1 t4], dn + 1, ws ++ [.int 1 t5], wn + 1, os ++ [.int 0 t6], on + 1, T', ?_, by rw [List.length_append, p2]; rfl, ?_, ?_, app_le p5, ?_, app_le p7, .head _, app_le p9, T6, Nat.le_trans hT' (Nat.succ_le_succ p11)⟩⟩)
    · exact U6 (k3 _ (.tail _ (mem_foc (.tail _ (.head _)) (en' (by omega)))) (en' (by omega))) (en' (by omega)) (en' (by omega)) (en' zI)
    · rintro ⟨a, o'⟩ hp
      exact V6 (q1 _ hp) (.inl (by have : @LT.lt Nat _ a dx := B1.lt _ hp; omega))
    · exact U6 (k3 _ (.head _) (ne o1)) (ne (by omega)) (ne (by omega)) (ne (by omega))
    · intro j hj
      by_cases hji : j < i
      · obtain ⟨y', t', u', e1, e2, e3⟩ := p3 j hji
        exact ⟨y', t', u', by rw [List.getElem?_append_left (by omega)]; exact e1, V6 e2 (.inr e3), e3⟩
      · obtain rfl : j = i := by omega
        refine ⟨y, τ 0, τ 1, by rw [List.getElem?_append_right (by omega), p2, Nat.sub_self]; rfl, ?_, z0⟩
        have e0 : (0 : Int) + (j : Int) = (j : Int) := Int.zero_add _
        rw [← e0]
        exact U6 my3 (en' (by omega)) (en' (by omega)) (en' z0)
    · exact .tail _ (mem_foc (.tail _ (mem_foc (.head _) (ne o3))) (ne (by omega)))
    · exact .tail _ (mem_foc (.head _) (ne o4))
  · rintro I m' n' ⟨rfl, hI, q1, q2, q3, rs, rn, ds, dn, ws, wn, os, on, D, p1, p2, p3, p4, p5, p6, p7, p8, p9, p10, p11⟩
    refine Wb.nil ⟨_, _, Hd.off dx n', ⟨⟨es, en, ⟨q1, B1.lt, B1.dx, q2, q3, B1.nr, B1.len⟩, B2, B3⟩, B.kn, fun p hp => off_sub p hp, fun p hp => off_ne p hp⟩, fun n2 Bf => ?_⟩
    obtain ⟨es2, en2, C1, C2, C3⟩ := Bf.ex
    obtain ⟨_, c1⟩ := C2 (Str.ofString "rows") _ rfl
    have hr : rl ≠ dx := Nat.ne_of_gt (Nat.lt_trans o0 xrl)
    refine hk x dx rl es2 en2 rs rn n2 C1.sub C1.lt C1.dx xrl C1.inst C1.dict c1 (C3 (Str.ofString "row") (by kernel_rfl)) (Bf.m (mem_off p1 hr)) p2 fun j hj => ?_
    obtain ⟨y, t, u, e1, e2, e3⟩ := p3 j hj
    have hrl : @LT.lt Nat _ rl ol := Nat.lt_trans o1 (Nat.lt_trans o2 (Nat.lt_trans o3 o4))
    exact ⟨y, t, u, e1, Bf.m (mem_off e2 (Nat.ne_of_gt (Nat.lt_trans o0 (Nat.lt_trans xrl (Nat.lt_trans hrl e3))))), Nat.lt_trans hrl e3⟩


theorem coreCls_at (i r : Nat) (hi : i < 11) (hr : r < 3) : coreCls (3 * i + r) = if r = 0 then 620 else if r = 1 then 646 else 672 := by
  unfold coreCls
  rw [if_neg (by omega)]
  obtain rfl | rfl | rfl : r = 0 ∨ r = 1 ∨ r = 2 := by omega
  · rw [if_pos (by omega)]; rfl
  · rw [if_neg (by omega), if_pos (by omega)]; rfl
  · rw [if_neg (by omega), if_neg (by omega)]; rfl
theorem coreKind_at (i r : Nat) (hi : i < 11) (hr : r < 3) : coreKind (3 * i + r) = 1 + (i : Int) := by
  unfold coreKind
  rw [if_neg (by omega), if_neg (by omega), show (3 * i + r) / 3 = i by omega]
noncomputable def CoreAt (base : List (Addr × Obj)) (cm : List (Int × Value)) (nx : List (Addr × Obj)) (j : Nat) : Prop :=
  ∃ y e fs n t, cm[j]? = some ((70 : Int) + (j : Int), .ref y) ∧ (y, instObj (coreCls j) e) ∈ nx ∧ (e, dictOf fs n) ∈ nx ∧ getL (Str.ofString "k") fs = some (some (.int (coreKind j) t)) ∧ getL (Str.ofString "call") fs = some none ∧ (∀ p ∈ base, @LT.lt Nat _ p.1 e) ∧ @LT.lt Nat _ e y
structure InJ (w : World) (base kp : List (Addr × Obj)) (x d cr : Addr) (es : List DictEntry) (en c : Nat) (nx : List (Addr × Obj)) : Prop where
  sub : ∀ p ∈ base, p.1 ≠ cr → p ∈ nx
  keep : ∀ p ∈ kp, p ∈ nx
  inst : (x, instObj 1316 d) ∈ nx
  dict : (d, dictOf es en) ∈ nx
  ex : ∃ co cm, (cr, co) ∈ nx ∧ co.IsDictOf (intKind pg w) cm ∧ cm.length = c ∧ ∀ j < c, CoreAt base cm nx j
theorem stored_new {cm : List (Int × Value)} {k : Int} {v : Value} (h : ∀ p ∈ cm, p.1 ≠ k) : stored cm k v = cm ++ [(k, v)] := by
  unfold stored
  rw [if_neg]
  intro q
  obtain ⟨p, hp, e⟩ := List.any_eq_true.mp q
  exact h p hp (by simpa using e)
structure InL (w : World) (base : Led) (I x d cr : Addr) (es : List DictEntry) (en c : Nat) (nx : Led) : Prop where
  sub : ∀ p ∈ base, p.1 ≠ cr → p ∈ nx
  inst : (x, instObj 1316 d) ∈ nx
  dict : (d, dictOf es en) ∈ nx
  ex : ∃ co cm, (cr, co) ∈ nx ∧ co.IsDictOf (intKind pg w) cm ∧ cm.length = c ∧ ∀ j < c, ∃ y e fs n t, cm[j]? = some ((70 : Int) + (j : Int), .ref y) ∧ (y, instObj (coreCls j) e) ∈ nx ∧ (e, dictOf fs n) ∈ nx ∧ getL (Str.ofString "k") fs = some (some (.int (coreKind j) t)) ∧ getL (Str.ofString "call") fs = some none ∧ (∀ p ∈ base, @LT.lt Nat _ p.1 e) ∧ @LT.lt Nat _ I e ∧ @LT.lt Nat _ e y
theorem InL.toJ {w : World} {base : Led} {I x d cr : Addr} {es : List DictEntry} {en c : Nat} {nx : Led} (h : InL w base I x d cr es en c nx) : InJ w base [] x d cr es en c nx := by
  obtain ⟨h1, h3, h4, co, cm, h5, h6, h7, h8⟩ := h
  refine ⟨h1, fun _ h => absurd h List.not_mem_nil, h3, h4, co, cm, h5, h6, h7, fun j hj => ?_⟩
  obtain ⟨y, e, fs, n, t, g1, g2, g3, g4, g5, g6, _, g8⟩ := h8 j hj
  exact ⟨y, e, fs, n, t, g1, g2, g3, g4, g5, g6, g8⟩
theorem InL.off {w : World} {base : Led} {I x d cr : Addr} {es : List DictEntry} {en c : Nat} {nx : Led} (H : InL w base I x d cr es en c nx) (hb : ∀ p ∈ base, @LT.lt Nat _ p.1 I) (hx : @LT.lt Nat _ x I) (hd : @LT.lt Nat _ d I) (hc : @LT.lt Nat _ cr I) : InL w base I x d cr es en c (Hd.off I nx) := by
  obtain ⟨h1, h3, h4, co, cm, h5, h6, h7, h8⟩ := H
  refine ⟨fun p hp hn => mem_off (h1 p hp hn) (Nat.ne_of_lt (hb p hp)), mem_off h3 (Nat.ne_of_lt hx), mem_off h4 (Nat.ne_of_lt hd), co, cm, mem_off h5 (Nat.ne_of_lt hc), h6, h7, fun j hj => ?_⟩
  obtain ⟨y, e, fs, n, t, g1, g2, g3, g4, g5, g6, g7, g8⟩ := h8 j hj
  exact ⟨y, e, fs, n, t, g1, mem_off g2 (Nat.ne_of_gt (Nat.lt_trans g7 g8)), mem_off g3 (Nat.ne_of_gt g7), g4, g5, g6, g7, g8⟩
theorem InL.up {w : World} {base : Led} {I x d cr : Addr} {es : List DictEntry} {en c : Nat} {nx n1 : Led} (H : InL w base I x d cr es en c nx) (s : ∀ p ∈ nx, p ∈ n1) : InL w base I x d cr es en c n1 := by
  obtain ⟨h1, h3, h4, co, cm, h5, h6, h7, h8⟩ := H
  refine ⟨fun p hp hn => s _ (h1 p hp hn), s _ h3, s _ h4, co, cm, s _ h5, h6, h7, fun j hj => ?_⟩
  obtain ⟨y, e, fs, n, t, g1, g2, g3, g4⟩ := h8 j hj
  exact ⟨y, e, fs, n, t, g1, s _ g2, s _ g3, g4⟩
/-- one more object in the dict -/
theorem InL.put {w : World} {base : Led} {I x d cr y e cls : Addr} {es fs : List DictEntry} {en n c : Nat} {nx n1 : Led} {k kk : Int} {u : Tok} (H : InL w base I x d cr es en c nx) (s : ∀ p ∈ nx, p ∈ n1) (iy : (y, instObj cls e) ∈ n1) (ie : (e, dictOf fs n) ∈ n1) (hle : ∀ p ∈ nx, @LT.lt Nat _ p.1 e) (hI : @LT.lt Nat _ I e) (hy : @LT.lt Nat _ e y)
    (gk : getL (Str.ofString "k") fs = some (some (.int kk u))) (gc : getL (Str.ofString "call") fs = some none) (hx : x ≠ cr) (hd : d ≠ cr) (hcb : ∃ o, (cr, o) ∈ base) (ec : cls = coreCls c) (ek : kk = coreKind c) (ekey : k = 70 + (c : Int)) :
    ∃ co cm, (cr, co) ∈ n1 ∧ co.IsDictOf (intKind pg w) cm ∧ cm.length = c ∧ ∀ o', o'.IsDictOf (intKind pg w) (stored cm k (.ref y)) → InL w base I x d cr es en (c + 1) (foc cr o' n1) := by
  subst ec ek ekey
  obtain ⟨h1, h3, h4, co, cm, h5, h6, h7, h8⟩ := H
  have hcr : @LT.lt Nat _ cr e := hle _ h5
  have hbase : ∀ p ∈ base, @LT.lt Nat _ p.1 e := fun p hp => by
    by_cases q : p.1 = cr
    · rw [q]; exact hcr
    · exact hle _ (h1 p hp q)
  refine ⟨co, cm, s _ h5, h6, h7, fun o' hd' => ?_⟩
  have up : ∀ {a : Addr} {o : Obj}, (a, o) ∈ n1 → a ≠ cr → (a, o) ∈ foc cr o' n1 := fun m q => .tail _ (mem_foc m q)
  have hecr : e ≠ cr := Nat.ne_of_gt hcr
  have hycr : y ≠ cr := Nat.ne_of_gt (Nat.lt_trans hcr hy)
  have hnew : ∀ p ∈ cm, p.1 ≠ (70 : Int) + (c : Int) := fun p hp => by
    obtain ⟨j, hj, hjp⟩ := List.mem_iff_getElem.mp hp
    obtain ⟨y', e', fs', n', t', g1, _⟩ := h8 j (by omega)
    rw [List.getElem?_eq_getElem hj, hjp] at g1
    rw [Option.some.inj g1]
    show (70 : Int) + (j : Int) ≠ 70 + (c : Int)
    omega
  rw [stored_new hnew] at hd'
  refine ⟨fun p hp hn => up (s _ (h1 p hp hn)) hn, up (s _ h3) hx, up (s _ h4) hd, o', _, .head _, hd', by rw [List.length_append, h7]; rfl, fun j hj => ?_⟩
  by_cases q : j < c
  · obtain ⟨y', e', fs', n', t', g1, g2, g3, g4, g5, g6, g7, g8⟩ := h8 j q
    obtain ⟨o, ho⟩ := hcb
    have z1 : @LT.lt Nat _ cr e' := g6 _ ho
    exact ⟨y', e', fs', n', t', by rw [List.getElem?_append_left (by omega)]; exact g1, up (s _ g2) (Nat.ne_of_gt (Nat.lt_trans z1 g8)), up (s _ g3) (Nat.ne_of_gt z1), g4, g5, g6, g7, g8⟩
  · obtain rfl : j = c := by omega
    exact ⟨y, e, fs, n, u, by rw [List.getElem?_append_right (by omega), h7, Nat.sub_self]; rfl, up iy hycr, up ie hecr, gk, gc, hbase, hI, hy⟩
/-- d[i] = a new object -/
theorem Wb.setItemG {w : World} {D : Nat} {c : Cx} {cs : Scope} {mm : Locs} {news : Led} {o i value : PySem.Expr} {ip pos : Pos} {rest : List Stmt} {kn : Locs → Led → Prop} {k : Value → Led → Prop} (hv : Go w D c cs mm news (eval value (c.env cs)) fun v n1 => ∃ (d : Addr) (ob : Obj) (kvs : List (Int × Value)) (j : Int), Ev w D c cs mm n1 o (fun _ => .ref d) ∧ Ev w D c cs mm n1 i (fun t => .int j t) ∧ (d, ob) ∈ n1 ∧ ob.IsDictOf (intKind pg w) kvs ∧ kvs.length ≤ sizeLine ∧ ∀ ob', ob'.IsDictOf (intKind pg w) (stored kvs j v) → Wb w D c cs mm (foc d ob' n1) rest kn k)
    (hs : swapsWith value (some (.Subscript o i ip)) pos.line (c.env cs) = pure false) : Wb w D c cs mm news (.Assign [.Subscript o i ip] value pos :: rest) kn k :=
  Wb.cons fun O s Q E S qn _ => wpAny_Assign_Subscript (hv O s _ E S fun v n1 h1 tk1 S1 ⟨d, ob, kvs, j, ho, hi, hm, hd, hz, h⟩ => ho.go (s := { s with heap := h1, toks := tk1 }) O S1 fun _ h2 tk2 S2 => hi.go (s := { s with heap := h2, toks := tk2 }) O S2 fun u h3 tk3 S3 => by
    obtain ⟨m, F, hmm, N⟩ := S3.open'
    exact setItem_news (s := { s with heap := h3, toks := tk3 }) F N hm hd hz fun h' o' F' N' d' => qn mm _ h' _ ⟨⟨m, F', hmm⟩, N'⟩ (h o' d')) hs
theorem c_nw (w : World) (k : Int) (t : Tok) : CC w (0 + 2) 620 [.int k t] (fun _ => True) (fun news kk => ∀ (x d : Addr) es n u news', (∀ p ∈ news, p ∈ news') → (∀ p ∈ news, @LT.lt Nat _ p.1 d) → @LT.lt Nat _ d x → (x, instObj 620 d) ∈ news' → (d, dictOf es n) ∈ news' → getL (Str.ofString "k") es = some (some (.int k u)) → getL (Str.ofString "call") es = some none → kk (.ref x) news') := by
  refine cc_cls (fun x => [(Str.ofString "k", .int k t), (Str.ofString "self", .ref x)]) (by k_is) (by k_is) (by k_is) (by k_is) (by k_is) (by intro _; kernel_rfl) (by intro _; k_extra "isb") (by intro _; kernel_rfl) (by kernel_rfl) (by kernel_rfl) (by kernel_rfl) (by kernel_rfl) ?_
  intro cx news kz x dx hp hk lx ly
  have qC : ClsOk (KF w.params) 620 := ⟨by k_is, by k_is, by k_is⟩
  k_extra "wi"
  intro n' B
  obtain ⟨es, en, B1, B2, B3⟩ := B.ex
  obtain ⟨_, g1⟩ := B2 (Str.ofString "k") _ rfl
  exact hk x dx es en _ n' B1.sub B1.lt B1.dx B1.inst B1.dict g1 (B3 _ (by kernel_rfl))
theorem c_ns (w : World) (k : Int) (t : Tok) : CC w (0 + 2) 646 [.int k t] (fun _ => True) (fun news kk => ∀ (x d : Addr) es n u news', (∀ p ∈ news, p ∈ news') → (∀ p ∈ news, @LT.lt Nat _ p.1 d) → @LT.lt Nat _ d x → (x, instObj 646 d) ∈ news' → (d, dictOf es n) ∈ news' → getL (Str.ofString "k") es = some (some (.int k u)) → getL (Str.ofString "call") es = some none → kk (.ref x) news') := by
  refine cc_cls (fun x => [(Str.ofString "k", .int k t), (Str.ofString "self", .ref x)]) (by k_is) (by k_is) (by k_is) (by k_is) (by k_is) (by intro _; kernel_rfl) (by intro _; k_extra "isb") (by intro _; kernel_rfl) (by kernel_rfl) (by kernel_rfl) (by kernel_rfl) (by kernel_rfl) ?_
  intro cx news kz x dx hp hk lx ly
  have qC : ClsOk (KF w.params) 646 := ⟨by k_is, by k_is, by k_is⟩
  k_extra "wi"
  intro n' B
  obtain ⟨es, en, B1, B2, B3⟩ := B.ex
  obtain ⟨_, g1⟩ := B2 (Str.ofString "k") _ rfl
  exact hk x dx es en _ n' B1.sub B1.lt B1.dx B1.inst B1.dict g1 (B3 _ (by kernel_rfl))
theorem c_nh (w : World) (k : Int) (t : Tok) : CC w (0 + 2) 672 [.int k t] (fun _ => True) (fun news kk => ∀ (x d : Addr) es n u news', (∀ p ∈ news, p ∈ news') → (∀ p ∈ news, @LT.lt Nat _ p.1 d) → @LT.lt Nat _ d x → (x, instObj 672 d) ∈ news' → (d, dictOf es n) ∈ news' → getL (Str.ofString "k") es = some (some (.int k u)) → getL (Str.ofString "call") es = some none → kk (.ref x) news') := by
  refine cc_cls (fun x => [(Str.ofString "k", .int k t), (Str.ofString "self", .ref x)]) (by k_is) (by k_is) (by k_is) (by k_is) (by k_is) (by intro _; kernel_rfl) (by intro _; k_extra "isb") (by intro _; kernel_rfl) (by kernel_rfl) (by kernel_rfl) (by kernel_rfl) (by kernel_rfl) ?_
  intro cx news kz x dx hp hk lx ly
  have qC : ClsOk (KF w.params) 672 := ⟨by k_is, by k_is, by k_is⟩
  k_extra "wi"
  intro n' B
  obtain ⟨es, en, B1, B2, B3⟩ := B.ex
  obtain ⟨_, g1⟩ := B2 (Str.ofString "k") _ rfl
  exact hk x dx es en _ n' B1.sub B1.lt B1.dx B1.inst B1.dict g1 (B3 _ (by kernel_rfl))
theorem c_nc (w : World) (k : Int) (t : Tok) : CC w (0 + 2) 698 [.int k t] (fun _ => True) (fun news kk => ∀ (x d : Addr) es n u news', (∀ p ∈ news, p ∈ news') → (∀ p ∈ news, @LT.lt Nat _ p.1 d) → @LT.lt Nat _ d x → (x, instObj 698 d) ∈ news' → (d, dictOf es n) ∈ news' → getL (Str.ofString "k") es = some (some (.int k u)) → getL (Str.ofString "call") es = some none → kk (.ref x) news') := by
  refine cc_cls (fun x => [(Str.ofString "k", .int k t), (Str.ofString "self", .ref x)]) (by k_is) (by k_is) (by k_is) (by k_is) (by k_is) (by intro _; kernel_rfl) (by intro _; k_extra "isb") (by intro _; kernel_rfl) (by kernel_rfl) (by kernel_rfl) (by kernel_rfl) (by kernel_rfl) ?_
  intro cx news kz x dx hp hk lx ly
  have qC : ClsOk (KF w.params) 698 := ⟨by k_is, by k_is, by k_is⟩
  k_extra "wi"
  intro n' B
  obtain ⟨es, en, B1, B2, B3⟩ := B.ex
  obtain ⟨_, g1⟩ := B2 (Str.ofString "k") _ rfl
  exact hk x dx es en _ n' B1.sub B1.lt B1.dx B1.inst B1.dict g1 (B3 _ (by kernel_rfl))
theorem c_prim_method (w : World) (a b : Int) (t u : Tok) : CP w 1 266 [.int a t, .int b u] (fun _ => 0 ≤ a ∧ a ≤ 1000) (fun t => .int (70 + 3 * (a - 9) + b) t) := by
  refine cc_of [(Str.ofString "which", .int b u), (Str.ofString "tid", .int a t)] (by k_is) (by k_is) (by kernel_rfl) (by k_extra "isb") (by kernel_rfl) (by kernel_rfl) (by kernel_rfl) (by kernel_rfl) (by kernel_rfl) ?_
  intro cx news kz hp hk
  obtain ⟨h1, h2⟩ := hp
  k_extra "w"
theorem c_inst (w : World) (x d cr : Addr) (es : List DictEntry) (en : Nat) (co : Obj) : CC w 5 707 [.ref x] (fun news => (x, instObj 1316 d) ∈ news ∧ (d, dictOf es en) ∈ news ∧ getL (Str.ofString "core") es = some (some (.ref cr)) ∧ (cr, co) ∈ news ∧ co.IsDictOf (intKind pg w) [] ∧ x ≠ cr ∧ d ≠ cr) (fun news k => ∀ v news', InJ w news [] x d cr es en 35 news' → k v news') := by
  refine cc_of [(Str.ofString "ev", .ref x)] (by k_is) (by k_is) (by kernel_rfl) (by k_extra "isb") (by kernel_rfl) (by kernel_rfl) (by kernel_rfl) (by kernel_rfl) (by kernel_rfl) ?_
  intro cx news kz hp hk
  obtain ⟨h1, h2, h3, h4, h5, h6, h7⟩ := hp
  have hcb : ∃ o, (cr, o) ∈ news := ⟨co, h4⟩
  refine Wb.forR (n := 11) (RgX.two (by kernel_rfl) (by k_is) (by boot_by_name) (by decide) (by k_extra "e") (by k_extra "e") (by kernel_rfl) (by kernel_rfl)) (by kernel_rfl) (by decide) (by decide) (by intro _; rfl) (fun i I m' n' => m' = [(Str.ofString "ev", fun _ => .ref x)] ∧ (∀ p ∈ news, @LT.lt Nat _ p.1 I) ∧ InL w news I x d cr es en (3 * i) n') (fun I hI => ⟨rfl, hI, ⟨fun p hp _ => hp, h1, h2, co, [], h4, h5, rfl, fun j hj => absurd hj (Nat.not_lt_zero _)⟩⟩) ?_ ?_
  · rintro I i m' n' hi ⟨rfl, hI, J⟩ hne
    have J0 := J.up (n1 := (I, itR (1 + ((i + 1 : Nat) : Int)) (((11 : Nat) : Int) - ((i + 1 : Nat) : Int))) :: n') fun _ h => .tail _ h
    have mI : (I, itR (1 + ((i + 1 : Nat) : Int)) (((11 : Nat) : Int) - ((i + 1 : Nat) : Int))) ∈ (I, itR (1 + ((i + 1 : Nat) : Int)) (((11 : Nat) : Int) - ((i + 1 : Nat) : Int))) :: n' := .head _
    have hIc : I ≠ cr := Nat.ne_of_gt (hI _ h4)
    k_with "cc" => first | exact c_prim_method w _ _ _ _ | fail
    k_with "pre" => first | exact ⟨by omega, by omega⟩ | fail
    refine Wb.assign (V := fun t => .int (70 + 3 * (9 + (1 + (i : Int)) - 1 - 9) + 0) t) (by k_extra "e") (by kernel_rfl) (by exact rfl) ?_
    refine Wb.setItemG (Go.callT (by kernel_rfl) (by k_is) (by k_is) (by k_extra "es") (fun τ => c_nw w (1 + (i : Int)) (τ 0)) (by kernel_rfl) (by decide) (fun _ => trivial) (fun _ => by k_extra "mono") ?_) (by exact rfl)
    intro τ0 y0 e0 fs0 m0 u0 n0 s0 l0 r0 iy0 ie0 gk0 gc0
    obtain ⟨co0, cm0, q01, q02, q03, q04⟩ := J0.put (k := 70 + 3 * (9 + (1 + (i : Int)) - 1 - 9) + 0) s0 iy0 ie0 l0 (l0 _ mI) r0 gk0 gc0 h6 h7 hcb (coreCls_at i 0 hi (by decide)).symm (coreKind_at i 0 hi (by decide)).symm (by omega)
    refine ⟨cr, co0, cm0, _, Ev.attr (by k_extra "e") (s0 _ J0.inst) (s0 _ J0.dict) h3 ⟨0, rfl⟩ (by k_extra "at") (by kernel_rfl) (by kernel_rfl), (by k_extra "e"), q01, q02, by rw [q03, sizeLine_eq]; omega, fun ob0 hd0 => ?_⟩
    have J1 := q04 ob0 hd0
    have mI1 : (I, _) ∈ foc cr ob0 n0 := .tail _ (mem_foc (s0 _ mI) hIc)
    refine Wb.setItemG (Go.callT (by kernel_rfl) (by k_is) (by k_is) (by k_extra "es") (fun τ => c_ns w (1 + (i : Int)) (τ 0)) (by kernel_rfl) (by decide) (fun _ => trivial) (fun _ => by k_extra "mono") ?_) (by exact rfl)
    intro τ1 y1 e1 fs1 m1 u1 n1 s1 l1 r1 iy1 ie1 gk1 gc1
    obtain ⟨co1, cm1, q11, q12, q13, q14⟩ := J1.put (k := 70 + 3 * (9 + (1 + (i : Int)) - 1 - 9) + 0 + 1) s1 iy1 ie1 l1 (l1 _ mI1) r1 gk1 gc1 h6 h7 hcb (coreCls_at i 1 hi (by decide)).symm (coreKind_at i 1 hi (by decide)).symm (by omega)
    refine ⟨cr, co1, cm1, _, Ev.attr (by k_extra "e") (s1 _ J1.inst) (s1 _ J1.dict) h3 ⟨0, rfl⟩ (by k_extra "at") (by kernel_rfl) (by kernel_rfl), (by k_extra "e"), q11, q12, by rw [q13, sizeLine_eq]; omega, fun ob1 hd1 => ?_⟩
    have J2 := q14 ob1 hd1
    have mI2 : (I, _) ∈ foc cr ob1 n1 := .tail _ (mem_foc (s1 _ mI1) hIc)
    refine Wb.setItemG (Go.callT (by kernel_rfl) (by k_is) (by k_is) (by k_extra "es") (fun τ => c_nh w (1 + (i : Int)) (τ 0)) (by kernel_rfl) (by decide) (fun _ => trivial) (fun _ => by k_extra "mono") ?_) (by exact rfl)
    intro τ2 y2 e2 fs2 m2 u2 n2 s2 l2 r2 iy2 ie2 gk2 gc2
    obtain ⟨co2, cm2, q21, q22, q23, q24⟩ := J2.put (k := 70 + 3 * (9 + (1 + (i : Int)) - 1 - 9) + 0 + 2) s2 iy2 ie2 l2 (l2 _ mI2) r2 gk2 gc2 h6 h7 hcb (coreCls_at i 2 hi (by decide)).symm (coreKind_at i 2 hi (by decide)).symm (by omega)
    refine ⟨cr, co2, cm2, _, Ev.attr (by k_extra "e") (s2 _ J2.inst) (s2 _ J2.dict) h3 ⟨0, rfl⟩ (by k_extra "at") (by kernel_rfl) (by kernel_rfl), (by k_extra "e"), q21, q22, by rw [q23, sizeLine_eq]; omega, fun ob2 hd2 => ?_⟩
    have J3 := q24 ob2 hd2
    have mI3 : (I, _) ∈ foc cr ob2 n2 := .tail _ (mem_foc (s2 _ mI2) hIc)
    exact Wb.locs' (mm' := [(Str.ofString "ev", fun _ => .ref x)]) (by k_extra "loc") (Wb.nil ⟨Hd.off I _, fun p hp => by
      rcases List.mem_cons.mp hp with rfl | hp
      · exact mI3
      · exact off_sub _ hp, off_ne, rfl, hI, J3.off hI (hI _ h1) (hI _ h2) (hI _ h4)⟩)
  · rintro I m' n' ⟨rfl, hI, J0⟩
    have hIe : ∀ z : Addr, (∀ p ∈ n', @LT.lt Nat _ p.1 z) → @LT.lt Nat _ I z := fun z hz => by
      obtain ⟨_, _, _, _, _, e8⟩ := J0.ex
      obtain ⟨y, e, fs, n, t, _, _, g3, _, _, _, g7, _⟩ := e8 0 (by decide)
      exact Nat.lt_trans g7 (hz _ g3)
    refine Wb.setItemG (Go.callT (by kernel_rfl) (by k_is) (by k_is) (by k_extra "es") (fun τ => c_nc w 7 (τ 0)) (by kernel_rfl) (by decide) (fun _ => trivial) (fun _ => by k_extra "mono") ?_) (by exact rfl)
    intro τ0 y0 e0 fs0 m0 u0 n0 s0 l0 r0 iy0 ie0 gk0 gc0
    obtain ⟨co0, cm0, q01, q02, q03, q04⟩ := J0.put (k := 103) s0 iy0 ie0 l0 (hIe _ l0) r0 gk0 gc0 h6 h7 hcb rfl rfl rfl
    obtain ⟨_, cr0⟩ : ∃ o, (cr, o) ∈ n' := by
      obtain ⟨o, _, h, _⟩ := J0.ex
      exact ⟨o, h⟩
    refine ⟨cr, co0, cm0, _, Ev.attr (by k_extra "e") (s0 _ J0.inst) (s0 _ J0.dict) h3 ⟨0, rfl⟩ (by k_extra "at") (by kernel_rfl) (by kernel_rfl), by k_extra "e", q01, q02, by rw [q03, sizeLine_eq]; decide, fun ob0 hd0 => ?_⟩
    have J1 := q04 ob0 hd0
    refine Wb.setItemG (Go.callT (by kernel_rfl) (by k_is) (by k_is) (by k_extra "es") (fun τ => c_nc w 9 (τ 0)) (by kernel_rfl) (by decide) (fun _ => trivial) (fun _ => by k_extra "mono") ?_) (by exact rfl)
    intro τ1 y1 e1 fs1 m1 u1 n1 s1 l1 r1 iy1 ie1 gk1 gc1
    obtain ⟨co1, cm1, q11, q12, q13, q14⟩ := J1.put (k := 104) s1 iy1 ie1 l1 (Nat.lt_trans (hIe _ l0) (l1 _ (.tail _ (mem_foc ie0 (Nat.ne_of_gt (l0 _ cr0)))))) r1 gk1 gc1 h6 h7 hcb rfl rfl rfl
    refine ⟨cr, co1, cm1, _, Ev.attr (by k_extra "e") (s1 _ J1.inst) (s1 _ J1.dict) h3 ⟨0, rfl⟩ (by k_extra "at") (by kernel_rfl) (by kernel_rfl), by k_extra "e", q11, q12, by rw [q13, sizeLine_eq]; decide, fun ob1 hd1 => ?_⟩
    have J2 := q14 ob1 hd1
    exact Wb.nil (hk _ _ J2.toJ)


theorem drv_off : True := by
  k_with_none
  trivial
section
section
variable {w : World} {A : Around} {E : Value → Shared → Prop} {s : Shared} {h₀ : Heap} {L d D : Addr} {m : Str → Option Value} {news : List (Addr × Obj)} {o : Obj} {kvs : List (Int × Value)} {vs : List Value} {ns : List Int} {n : Nat}
theorem sort_N {Q : Value → Shared → Prop} (F : Fr h₀ L s.heap m) (N : News h₀ L s.heap ((D, listOf vs.toArray n) :: news)) (hlt : ∀ q ∈ news, q.1 < D) (hI : IntsAre vs ns) (h64 : vs.length < 64)
    (h : ∀ vs' ns' c h', Fr h₀ L h' m → News h₀ L h' ((D, listOf (vs' : List Value).toArray c) :: news) → IntsAre vs' ns' → ns'.Perm ns → ns'.Pairwise (· ≤ ·) → Q .none { s with heap := h' }) :
    wpAny (model pg w) A (call (.builtin "list.sort") [.ref D]) Q E s := by
  have z := N _ (.head _)
  refine wpAny_call_entry PyProof.Rows.slot_list_sort ⟨_, z.1, rfl⟩ PyProof.Rows.entry_list_sort (list_sort_tree (n := n) (vs := vs) z.1 hI h64 fun out ns' hI hp hP => ⟨.none, rfl, ?_⟩) (PyProof.Rows.args_list_sort _)
  obtain ⟨e, he⟩ := sortedHeap_at (out := out) z.1
  have old : ∀ b o, b ≠ D → s.heap.get? b = some o → (sortedHeap s.heap D vs out).get? b = some o := fun b o hb e => (sortedHeap_old hb (Heap.lt_size e)).trans e
  have hL : L ≠ D := fun e => z.2.1 (by rw [e])
  refine h out.toList ns' e _ ⟨F.ns.at' fun o e => old _ _ hL e, fun b o e => old b o (fun q => ?_) (F.keep b o e), F.above⟩ (fun p hp => ?_) hI hp hP
  · rw [q, z.2.2] at e; cases e
  · rcases List.mem_cons.mp hp with rfl | hp
    · exact ⟨he, z.2⟩
    · have y := N p (.tail _ hp)
      exact ⟨old _ _ (Nat.ne_of_lt (hlt p hp)) y.1, y.2⟩
theorem intsAre_of {P : Nat → Value → Prop} : ∀ {vs : List Value} {ns : List Int}, vs.length = ns.length → (∀ (j : Nat) (v : Value), vs[j]? = some v → ∃ k t, ns[j]? = some k ∧ v = .int k t) → IntsAre vs ns
  | [], [], _, _ => .nil
  | [], _ :: _, h, _ => by cases h
  | _ :: _, [], h, _ => by cases h
  | v :: vs, k :: ns, h, q => by
    obtain ⟨k', t, h1, h2⟩ := q 0 v rfl
    cases h1
    subst h2
    exact .cons _ _ (intsAre_of (P := P) (Nat.succ.inj h) fun j v hv => q (j + 1) v hv)
theorem sorted_dict {Q : Value → Shared → Prop} (F : Fr h₀ L s.heap m) (N : News h₀ L s.heap news) (hh : A.handled = none) (hm : (d, o) ∈ news) (hd : o.IsDictOf (intKind pg w) kvs) (lo : (d == sysModules) = false) (h64 : kvs.length < 64) (hs : (kvs.map (·.1)).Pairwise (· ≤ ·))
    (h : ∀ D vs' c h' tk, Fr h₀ L h' m → News h₀ L h' ((D, listOf (vs' : List Value).toArray c) :: news) → (∀ q ∈ news, q.1 < D) → IntsAre vs' (kvs.map (·.1)) → Q (.ref D) { s with heap := h', toks := tk }) :
    wpAny (model pg w) A (call (.builtin "sorted") [.ref d]) Q E s := by
  obtain ⟨ep, hat⟩ := KdkAt.of hd
  refine kdu_sorted (kdl_dict (knd := intKind pg w) (kvs := kvs) (ep := ep) lo) hh F N (hat.dictAt (N _ hm).1) (by rw [sizeLine_eq]; omega) fun B h' tk vs F' N' l1 hl hv => ?_
  have hI : IntsAre vs (kvs.map (·.1)) := intsAre_of (P := fun _ _ => True) (by rw [hl, List.length_map]) fun j v hj => by
    obtain ⟨k, x, hx, hk⟩ := hv j v hj
    obtain ⟨t, rfl⟩ := PyProof.V.Flat.int_inv (kdl_flat_int hk)
    exact ⟨k, t, by rw [List.getElem?_map, hx]; rfl, rfl⟩
  refine sort_N F' N' l1 hI (by rw [hl]; exact h64) fun vs' ns' c h'' F'' N'' a1 a2 a3 => ?_
  rw [lks_uniq a2 a3 hs] at a1
  exact h B vs' c h'' tk F'' N'' l1 a1
end
theorem keys_asc : ((List.range 35).map fun (i : Nat) => (70 : Int) + (i : Int)).Pairwise (· ≤ ·) := by decide
theorem sorted_w {w : World} {B : Around} {E : Value → Shared → Prop} {s : Shared} {h₀ : Heap} {L : Addr} {m : Str → Option Value} {news : List (Addr × Obj)} {A : Ad} {S : St} {Q : Value → Shared → Prop} (hW : Wd w A S news) (F : Fr h₀ L s.heap m) (N : News h₀ L s.heap news) (hh : B.handled = none)
    (hk : A.cm.map (·.1) = (List.range 35).map fun (i : Nat) => (70 : Int) + (i : Int))
    (h : ∀ D vs' c h' tk news', Fr h₀ L h' m → Wd w A S news' → Ext A news news' → Fz A news' D (listOf (vs' : List Value).toArray c) → News h₀ L h' news' → IntsAre vs' ((List.range 35).map fun (i : Nat) => (70 : Int) + (i : Int)) → Q (.ref D) { s with heap := h', toks := tk }) :
    wpAny (model pg w) B (call (.builtin "sorted") [.ref (A.a 17)]) Q E s := by
  have hl : A.cm.length = 35 := by
    have := congrArg List.length hk
    rw [List.length_map] at this
    exact this
  refine sorted_dict F N hh (hW.mem 17 _ rfl) hW.core hW.lo17 (by omega) (by rw [hk]; exact keys_asc) fun D vs' c h' tk F' N' l1 I' => ?_
  rw [hk] at I'
  exact h D vs' c h' tk _ F' hW.cons Ext.refl.cons ⟨.head _, hW.nt l1⟩ N' I'
theorem ne_w {w : World} {B : Around} {E : Value → Shared → Prop} {s : Shared} {h₀ : Heap} {L a b : Addr} {news : List (Addr × Obj)} {v ys : List Value} {c : Nat} {Q : Value → Shared → Prop} (N : News h₀ L s.heap news) (ha : (a, listOf v.toArray c) ∈ news) (hb : (b, LCg.lst ys) ∈ news)
    (I : IntsAre v ((List.range 35).map fun (i : Nat) => (70 : Int) + (i : Int))) (J : IntsAre ys (List.map (fun k' => k') (rangeKs 70 (105 - 70 : Int).toNat))) (hu : B.units + 64 < cLine) (h : Q (.bool false) s) :
    wpAny (model pg w) B (compareOp .NotEq (.ref a) (.ref b)) Q E s := by
  have e : ((List.range 35).map fun (i : Nat) => (70 : Int) + (i : Int)) = List.map (fun k' => k') (rangeKs 70 (105 - 70 : Int).toNat) := by rw [List.map_id']; rfl
  refine ne_intsK (lstN N ha) I ⟨_, (N _ hb).1, rfl, _, rfl⟩ J hu ?_
  rw [← e]
  simpa using h
theorem ne_w2 {w : World} {B : Around} {E : Value → Shared → Prop} {s : Shared} {h₀ : Heap} {L a b : Addr} {news : List (Addr × Obj)} {A : Ad} {S : St} {v ys : List Value} {c : Nat} {Q : Value → Shared → Prop} (hW : Wd w A S news) (N : News h₀ L s.heap ((b, LCg.lst ys) :: news)) (ha : (a, listOf v.toArray c) ∈ news)
    (I : IntsAre v ((List.range 35).map fun (i : Nat) => (70 : Int) + (i : Int))) (J : IntsAre ys (List.map (fun k' => k') (rangeKs 70 (105 - 70 : Int).toNat))) (hu : B.units + 64 < cLine) (h : ∀ news', Wd w A S news' → Ext A news news' → News h₀ L s.heap news' → Q (.bool false) s) :
    wpAny (model pg w) B (compareOp .NotEq (.ref a) (.ref b)) Q E s :=
  ne_w N (.tail _ ha) (.head _) I J hu (h _ hW.cons Ext.refl.cons N)


noncomputable def Asc : List Nat → Prop
  | a :: b :: r => a < b ∧ Asc (b :: r)
  | _ => True
theorem asc_head : ∀ {l : List Nat} {a : Nat}, Asc (a :: l) → ∀ x ∈ l, a < x
  | [], _, _ => fun _ h => absurd h List.not_mem_nil
  | b :: r, a, h => fun x hx => by
    rcases List.mem_cons.mp hx with rfl | hx
    · exact h.1
    · exact Nat.lt_trans h.1 (asc_head h.2 x hx)
theorem asc_tail : ∀ {l : List Nat} {a : Nat}, Asc (a :: l) → Asc l
  | [], _, _ => trivial
  | _ :: _, _, h => h.2
theorem asc_inj : ∀ {l : List Nat}, Asc l → ∀ i j, i < l.length → j < l.length → l.getD i 0 = l.getD j 0 → i = j
  | [], _, i, _, hi, _, _ => absurd hi (Nat.not_lt_zero _)
  | a :: l, h, 0, 0, _, _, _ => rfl
  | a :: l, h, 0, j + 1, _, hj, e => by
    have hj' : j < l.length := Nat.lt_of_succ_lt_succ hj
    have := asc_head h (l.getD j 0) (by rw [List.getD_eq_getElem?_getD, List.getElem?_eq_getElem hj']; exact List.getElem_mem hj')
    simp only [List.getD_cons_zero, List.getD_cons_succ] at e
    omega
  | a :: l, h, i + 1, 0, hi, _, e => by
    have hi' : i < l.length := Nat.lt_of_succ_lt_succ hi
    have := asc_head h (l.getD i 0) (by rw [List.getD_eq_getElem?_getD, List.getElem?_eq_getElem hi']; exact List.getElem_mem hi')
    simp only [List.getD_cons_zero, List.getD_cons_succ] at e
    omega
  | a :: l, h, i + 1, j + 1, hi, hj, e => by
    simp only [List.getD_cons_succ] at e
    rw [asc_inj (asc_tail h) i j (Nat.lt_of_succ_lt_succ hi) (Nat.lt_of_succ_lt_succ hj) e]
noncomputable def posOf : List Nat := [1, 0, 2, 4, 3, 6, 5, 7, 8, 10, 9, 11, 13, 12, 15, 14, 16, 17, 18, 19]
theorem pos_inj : ∀ i < 20, ∀ j < 20, posOf.getD i 0 = posOf.getD j 0 → i = j := by decide
theorem pos_lt : ∀ i < 20, posOf.getD i 0 < 20 := by decide
theorem lookup_at {cm : List (Int × Value)} : ∀ (l : List (Int × Value)) (c : Int) (j : Nat) (v : Value), (∀ (i : Nat) (p : Int × Value), l[i]? = some p → p.1 = c + (i : Int)) → l[j]? = some (c + (j : Int), v) → l.lookup (c + (j : Int)) = some v
  | [], _, _, _, _, h => by cases h
  | p :: l, c, 0, v, _, h => by
    have h' : p = (c + ((0 : Nat) : Int), v) := Option.some.inj h
    rw [h', List.lookup_cons]
    simp
  | p :: l, c, j + 1, v, hk, h => by
    have h0 := hk 0 p rfl
    have hne : ((c + ((j + 1 : Nat) : Int)) == p.1) = false := by rw [h0]; simp; omega
    obtain ⟨k, x⟩ := p
    rw [List.lookup_cons]
    simp only at hne h0
    rw [hne]
    have e : c + ((j + 1 : Nat) : Int) = (c + 1) + (j : Int) := by omega
    rw [e]
    refine lookup_at (cm := cm) l (c + 1) j v (fun i p hp => ?_) ?_
    · have := hk (i + 1) p hp
      omega
    · rw [← e]; exact h
noncomputable def keys35 : List Int := (List.range 35).map fun (i : Nat) => (70 : Int) + (i : Int)
structure Started (w : World) (led n6 : List (Addr × Obj)) (A : Ad) (S : St) (mth mtl ev m wd cr kl : Addr) : Prop where
  world : Wd w A S led
  e14 : ev = A.a 14
  e9 : m = A.a 9
  e18 : wd = A.a 18
  e17 : cr = A.a 17
  e19 : kl = A.a 19
  tl : S.tl = []
  il : S.il = []
  kept : S.kept = []
  sk : S.sk = []
  keys : A.cm.map (·.1) = keys35
  thrown : Fz A led mth (listOf ([] : List Value).toArray 0)
  gth : getL (Str.ofString "thrown") (A.es 10) = some (some (.ref mth))
  told : Fz A led mtl (listOf ([] : List Value).toArray 0)
  gtl : getL (Str.ofString "told") (A.es 10) = some (some (.ref mtl))
  gst : ∃ t, getL (Str.ofString "state") (A.es 10) = some (some (.int 0 t))
  base : ∀ p ∈ n6, Fz A led p.1 p.2
theorem ne6 {a b c d e f x : Nat} (p1 : a < b) (p2 : b < c) (p3 : c < d) (p4 : d < e) (p5 : e < f) (h : x < a ∨ (d < x ∧ x < e) ∨ (e < x ∧ x < f)) : x ≠ a ∧ x ≠ b ∧ x ≠ c ∧ x ≠ d ∧ x ≠ e ∧ x ≠ f := by
  have q1 := Nat.lt_trans p2 p3
  have q2 := Nat.lt_trans p1 q1
  rcases h with h | ⟨h, g⟩ | ⟨h, g⟩
  · have h1 := Nat.lt_trans h q2
    have h2 := Nat.lt_trans h1 p4
    exact ⟨Nat.ne_of_lt h, Nat.ne_of_lt (Nat.lt_trans h p1), Nat.ne_of_lt (Nat.lt_trans (Nat.lt_trans h p1) p2), Nat.ne_of_lt h1, Nat.ne_of_lt h2, Nat.ne_of_lt (Nat.lt_trans h2 p5)⟩
  · exact ⟨Nat.ne_of_gt (Nat.lt_trans q2 h), Nat.ne_of_gt (Nat.lt_trans q1 h), Nat.ne_of_gt (Nat.lt_trans p3 h), Nat.ne_of_gt h, Nat.ne_of_lt g, Nat.ne_of_lt (Nat.lt_trans g p5)⟩
  · have h1 := Nat.lt_trans p4 h
    exact ⟨Nat.ne_of_gt (Nat.lt_trans q2 h1), Nat.ne_of_gt (Nat.lt_trans q1 h1), Nat.ne_of_gt (Nat.lt_trans p3 h1), Nat.ne_of_gt h1, Nat.ne_of_gt h, Nat.ne_of_lt g⟩
theorem wd_start {w : World} {n6 n5 n4 n3 n2 n1 n0 : List (Addr × Obj)} {kt ktd r st std hp hpd hth hat md m sa mth mtl px pd ev evd eth cr wd kl : Nat} {ktes stes hes mes pes ees : List DictEntry} {kten sten hen men pn een rn : Nat} {rs : List Value} {ho so wo : Obj} {t1 t2 t3 t4 : Tok}
    (s5 : ∀ p ∈ n6, p ∈ n5) (b5 : ∀ p ∈ n6, @LT.lt Nat _ p.1 ktd) (o1 : ktd < kt) (o2 : kt < r) (k1 : (kt, instObj 122 ktd) ∈ n5) (k2 : (ktd, dictOf ktes kten) ∈ n5) (k3 : getL (Str.ofString "rows") ktes = some (some (.ref r))) (k4 : getL (Str.ofString "row") ktes = some none) (k5 : (r, listOf rs.toArray rn) ∈ n5) (k6 : rs.length = 16)
    (k7 : ∀ j : Nat, j < 16 → ∃ y t u, rs[j]? = some (.ref y) ∧ (y, tp [.int 1 t, .int j u]) ∈ n5 ∧ @LT.lt Nat _ r y)
    (s4 : ∀ p ∈ n5, p ∈ n4) (b4 : ∀ p ∈ n5, @LT.lt Nat _ p.1 std) (o3 : std < st) (h1 : (st, instObj 766 std) ∈ n4) (h2 : (std, dictOf stes sten) ∈ n4) (h3 : getL (Str.ofString "kt") stes = some (some (.ref kt)))
    (s3 : ∀ p ∈ n4, p ∈ n3) (b3 : ∀ p ∈ n4, @LT.lt Nat _ p.1 hpd) (o4 : hpd < hp) (o5 : hp < hth) (o6 : hth < hat) (g1 : (hp, instObj 815 hpd) ∈ n3) (g2 : (hpd, dictOf hes hen) ∈ n3) (g3 : (hth, listOf ([] : List Value).toArray 0) ∈ n3) (g4 : (hat, ho) ∈ n3) (g5 : ho.IsDictOf (intKind pg w) []) (g6 : (hat == sysModules) = false)
    (g7 : getL (Str.ofString "things") hes = some (some (.ref hth))) (g8 : getL (Str.ofString "at") hes = some (some (.ref hat))) (g9 : getL (Str.ofString "top") hes = some (some (.int 16 t1))) (g10 : getL (Str.ofString "made") hes = some (some (.int 0 t2))) (g11 : getL (Str.ofString "fresh") hes = some (some (.int 0 t3))) (g12 : hes.length ≤ 1000)
    (s2 : ∀ p ∈ n3, p ∈ n2) (b2 : ∀ p ∈ n3, @LT.lt Nat _ p.1 md) (o7 : md < m) (o8 : m < sa) (o9 : sa < mth) (o10 : sa < mtl) (o11 : mth < pd) (o12 : mtl < pd) (o13 : pd < px) (m1 : (m, instObj 1110 md) ∈ n2) (m2 : (md, dictOf mes men) ∈ n2) (m3 : (sa, so) ∈ n2) (m4 : so.IsDictOf (intKind pg w) []) (m5 : (sa == sysModules) = false)
    (m6 : (mth, listOf ([] : List Value).toArray 0) ∈ n2) (m7 : (mtl, listOf ([] : List Value).toArray 0) ∈ n2) (m8 : (px, instObj 864 pd) ∈ n2) (m9 : (pd, dictOf pes pn) ∈ n2) (m10 : getL (Str.ofString "kt") mes = some (some (.ref kt))) (m11 : getL (Str.ofString "heap") mes = some (some (.ref hp))) (m12 : getL (Str.ofString "statics") mes = some (some (.ref sa)))
    (m13 : getL (Str.ofString "places") mes = some (some (.ref px))) (m14 : getL (Str.ofString "thrown") mes = some (some (.ref mth))) (m15 : getL (Str.ofString "told") mes = some (some (.ref mtl))) (m16 : getL (Str.ofString "state") mes = some (some (.int 0 t4))) (m17 : getL (Str.ofString "heap") pes = some (some (.ref hp))) (m18 : getL (Str.ofString "statics") pes = some (some (.ref sa)))
    (s1 : ∀ p ∈ n2, p ∈ n1) (b1 : ∀ p ∈ n2, @LT.lt Nat _ p.1 evd) (o14 : evd < ev) (o15 : ev < eth) (o16 : eth < cr) (e1 : (eth, listOf [Value.none].toArray 0) ∈ n1) (e2 : (cr == sysModules) = false) (e3 : getL (Str.ofString "store") ees = some (some (.ref st))) (e4 : getL (Str.ofString "kt") ees = some (some (.ref kt))) (e5 : getL (Str.ofString "things") ees = some (some (.ref eth)))
    (e6 : getL (Str.ofString "core") ees = some (some (.ref cr))) (e7 : getL (Str.ofString "seen_as") ees = some none) (J : InJ w n1 [] ev evd cr ees een 35 n0) (b0 : ∀ p ∈ n0, @LT.lt Nat _ p.1 wd) (o17 : wd < kl) (w1 : (wd == sysModules) = false) (w2 : wo.IsDictOf (strKind pg w) [(Str.ofString "ev", .ref ev), (Str.ofString "m", .ref m), (Str.ofString "kept", .ref kl)]) :
    ∃ A S, Started w ((kl, listOf ([] : List Value).toArray 0) :: (wd, wo) :: n0) n6 A S mth mtl ev m wd cr kl := by
  obtain ⟨j1, _, j3, j4, co, cm, j5, j6, j7, j8⟩ := J
  have c1 : @LT.lt Nat _ r std := b4 _ k5
  have c2 : @LT.lt Nat _ st hpd := b3 _ h1
  have c3 : @LT.lt Nat _ hat md := b2 _ g4
  have c4 : @LT.lt Nat _ px evd := b1 _ m8
  have c5 : @LT.lt Nat _ cr wd := b0 _ j5
  let C : List Nat := [ktd, kt, r, std, st, hpd, hp, hth, hat, md, m, sa, pd, px, evd, ev, eth, cr, wd, kl]
  have hC : Asc C := ⟨o1, o2, c1, o3, c2, o4, o5, o6, c3, o7, o8, Nat.lt_trans o9 o11, o13, c4, o14, o15, o16, c5, o17, trivial⟩
  let A : Ad := { a := fun i => C.getD (posOf.getD i 0) 0, es := fun i => [[], ktes, [], [], stes, [], [], [], [], [], mes, [], [], pes, [], ees].getD i [], n := fun i => [0, kten, rn, 0, sten, 0, hen, 0, 0, 0, men, 0, 0, pn, 0, een].getD i 0, rs := rs, co := co, cm := cm, wo := wo }
  let S : St := { hes := hes, tl := [], thn := 0, hat := ho, st := so, sk := [], il := [], itn := 0, kept := [], kn := 0 }
  let led := (kl, listOf ([] : List Value).toArray 0) :: (wd, wo) :: n0
  have u0 : ∀ p ∈ n0, p ∈ led := fun p hp => .tail _ (.tail _ hp)
  have u2 : ∀ p ∈ n2, p ∈ led := fun p hp => u0 p (j1 p (s1 p hp) (Nat.ne_of_lt (Nat.lt_trans (b1 p hp) (Nat.lt_trans o14 (Nat.lt_trans o15 o16)))))
  have u3 : ∀ p ∈ n3, p ∈ led := fun p hp => u2 p (s2 p hp)
  have u4 : ∀ p ∈ n4, p ∈ led := fun p hp => u3 p (s3 p hp)
  have u5 : ∀ p ∈ n5, p ∈ led := fun p hp => u4 p (s4 p hp)
  have q0 : @LT.lt Nat _ pd eth := Nat.lt_trans o13 (Nat.lt_trans c4 (Nat.lt_trans o14 o15))
  have q1 : @LT.lt Nat _ std hpd := Nat.lt_trans o3 c2
  have nt : ∀ x : Nat, (x < hpd ∨ (sa < x ∧ x < eth) ∨ (eth < x ∧ x < kl)) → NT A x := by
    intro x h j hj
    have z := ne6 (Nat.lt_trans o4 o5) o6 (Nat.lt_trans c3 (Nat.lt_trans o7 o8)) (Nat.lt_trans o9 (Nat.lt_trans o11 q0)) (Nat.lt_trans o16 (Nat.lt_trans c5 o17)) h
    simp only [List.mem_cons, List.not_mem_nil, or_false] at hj
    rcases hj with rfl | rfl | rfl | rfl | rfl | rfl
    · exact z.1
    · exact z.2.1
    · exact z.2.2.1
    · exact z.2.2.2.1
    · exact z.2.2.2.2.1
    · exact z.2.2.2.2.2
  have ntl : ∀ x : Nat, x < hpd → NT A x := fun x h => nt x (.inl h)
  refine ⟨A, S, ⟨?world, rfl, rfl, rfl, rfl, rfl, rfl, rfl, rfl, rfl, ?keys, ⟨u2 _ m6, nt _ (.inr (.inl ⟨o9, Nat.lt_trans o11 q0⟩))⟩, m14, ⟨u2 _ m7, nt _ (.inr (.inl ⟨o10, Nat.lt_trans o12 q0⟩))⟩, m15, ⟨t4, m16⟩, fun p hp => ⟨u5 _ (s5 p hp), ntl _ (Nat.lt_trans (b5 p hp) (Nat.lt_trans o1 (Nat.lt_trans o2 (Nat.lt_trans c1 q1))))⟩⟩⟩
  case keys =>
    refine List.ext_getElem (by rw [List.length_map, j7]; rfl) fun i hi hi' => ?_
    have h35 : i < 35 := by rw [List.length_map, j7] at hi; exact hi
    obtain ⟨y, e, fs, n, t, q1, _⟩ := j8 i h35
    have hq : cm[i]'(by rw [j7]; exact h35) = ((70 : Int) + (i : Int), .ref y) := Option.some.inj ((List.getElem?_eq_getElem _).symm.trans q1)
    rw [List.getElem_map, hq]
    simp [keys35]
  case world =>
    exact {
      mem := fun i o ho => by
        have hl := tab_lt ho
        match i, ho with
        | 0, ho => cases ho; exact u5 _ k1
        | 1, ho => cases ho; exact u5 _ k2
        | 2, ho => cases ho; exact u5 _ k5
        | 3, ho => cases ho; exact u4 _ h1
        | 4, ho => cases ho; exact u4 _ h2
        | 5, ho => cases ho; exact u3 _ g1
        | 6, ho => cases ho; exact u3 _ g2
        | 7, ho => cases ho; exact u3 _ g3
        | 8, ho => cases ho; exact u3 _ g4
        | 9, ho => cases ho; exact u2 _ m1
        | 10, ho => cases ho; exact u2 _ m2
        | 11, ho => cases ho; exact u2 _ m3
        | 12, ho => cases ho; exact u2 _ m8
        | 13, ho => cases ho; exact u2 _ m9
        | 14, ho => cases ho; exact u0 _ j3
        | 15, ho => cases ho; exact u0 _ j4
        | 16, ho => cases ho; exact u0 _ (j1 _ e1 (Nat.ne_of_lt o16))
        | 17, ho => cases ho; exact u0 _ j5
        | 18, ho => cases ho; exact .tail _ (.head _)
        | 19, ho => cases ho; exact .head _
        | n + 20, ho => cases ho
      inj := fun i j hi hj e => pos_inj i hi j hj (asc_inj hC _ _ (pos_lt i hi) (pos_lt j hj) e)
      kt_rows := k3
      st_kt := h3
      m_kt := m10
      m_heap := m11
      m_statics := m12
      m_places := m13
      p_heap := m17
      p_statics := m18
      e_store := e3
      e_kt := e4
      e_things := e5
      e_core := e6
      wd := w2
      kt_norow := k4
      e_noseen := e7
      lo8 := g6
      lo11 := m5
      lo17 := e2
      lo18 := w1
      h_things := g7
      h_at := g8
      h_top := ⟨t1, g9⟩
      h_made := ⟨t2, g10⟩
      h_fresh := ⟨t3, g11⟩
      h_len := g12
      rlen := k6
      rows := fun i hi => by
        obtain ⟨y, t, u, q1', q2, q3⟩ := k7 i hi
        have : @LT.lt Nat _ y std := b4 _ q2
        exact ⟨y, t, u, q1', u5 _ q2, ntl _ (Nat.lt_trans this q1)⟩
      hat := g5
      sta := m4
      core := j6
      cores := fun i hi => by
        obtain ⟨y, e, fs, n, t, q1, q2, q3, q4, q5, q6, q7⟩ := j8 i hi
        have r1 : @LT.lt Nat _ y wd := b0 _ q2
        have r2 : @LT.lt Nat _ eth e := q6 _ e1
        have z : ∀ x : Nat, eth < x → x < wd → NT A x := fun x a b => nt x (.inr (.inr ⟨a, Nat.lt_trans b o17⟩))
        refine ⟨y, e, fs, n, t, lookup_at (cm := cm) cm 70 i _ (fun i' p hp => ?_) q1, ⟨u0 _ q2, z _ (Nat.lt_trans r2 q7) r1⟩, ⟨u0 _ q3, z _ r2 (Nat.lt_trans q7 r1)⟩, q4, q5⟩
        have hlt : i' < 35 := by rw [← j7]; exact (List.getElem?_eq_some_iff.mp hp).1
        obtain ⟨y', _, _, _, _, q1', _⟩ := j8 i' hlt
        rw [hp] at q1'
        rw [Option.some.inj q1']
      things := fun i r h => by cases h
      items := fun i r h => by cases h
      kepts := fun v h => absurd h List.not_mem_nil }


theorem Ext.cons_l {A : Ad} {p : Addr × Obj} {n1 n2 : List (Addr × Obj)} (e : Ext A (p :: n1) n2) : Ext A n1 n2 := fun q hq hn => e q (.tail _ hq) hn
theorem Wd.ntI {w : World} {A : Ad} {S : St} {news : List (Addr × Obj)} {I L : Addr} {oI : Obj} {h₀ h : Heap} (H : Wd w A S news) (N : News h₀ L h news) (hI : (I, oI) ∈ news) (hc : ItC oI.cls) : NT A I := fun j hj e => by
  have hm : ∃ o, tab A S j = some o := by
    simp only [List.mem_cons, List.not_mem_nil, or_false] at hj
    rcases hj with rfl | rfl | rfl | rfl | rfl | rfl <;> exact ⟨_, rfl⟩
  obtain ⟨o, ho⟩ := hm
  exact off_ne _ ((H.off N hI hc).mem j o ho) e.symm
theorem turn_end {h₀ h' : Heap} {L I l : Addr} {oI lo : Obj} {s₁ : Shared} {tk : Nat} {m' : Str → Option Value} {nx : List (Addr × Obj)} {P : (Str → Option Value) → Prop} {J : List (Addr × Obj) → Prop} (F : Fr h₀ L h' m') (N : News h₀ L h' nx) (hI : (I, oI) ∈ nx) (hl : (l, lo) ∈ nx) (hc : lo.cls ≠ oI.cls) (hP : P m') (hJ : J (off I nx)) :
    UnrEndW h₀ L s₁ [(I, oI)] (fun m' n' => (l, lo) ∈ n' ∧ P m' ∧ J n') { s₁ with heap := h', toks := tk } :=
  ⟨h', tk, m', off I nx, rfl, F, fun p hp => by
    rcases List.mem_cons.mp hp with rfl | hp
    · exact N _ hI
    · exact N _ (off_sub _ hp), fun p hp q hq => by rw [List.mem_singleton.mp hq]; exact off_ne p hp, mem_off hl (ne_of_cls N hI hl hc), hP, hJ⟩
/-- a row of the law's own table, or a number's ask: a frozen tuple of five ints in their bounds -/
noncomputable def RowIn (A : Ad) (news : List (Addr × Obj)) (v : Value) : Prop := ∃ a k c f s z t1 t2 t3 t4 t5, v = .ref a ∧ Fz A news a (tp [.int k t1, .int c t2, .int f t3, .int s t4, .int z t5]) ∧ 1 ≤ k ∧ k ≤ 11 ∧ 0 ≤ c ∧ c ≤ 3 ∧ 0 ≤ f ∧ f ≤ 4 ∧ 0 ≤ s ∧ s ≤ 6 ∧ 0 ≤ z ∧ z ≤ 2 ^ 39
theorem RowIn.ext {A : Ad} {n1 n2 : List (Addr × Obj)} {v : Value} (h : RowIn A n1 v) (e : Ext A n1 n2) : RowIn A n2 v := by
  obtain ⟨a, k, c, f, s, z, t1, t2, t3, t4, t5, h1, h2, h3⟩ := h
  exact ⟨a, k, c, f, s, z, t1, t2, t3, t4, t5, h1, h2.ext e, h3⟩
theorem RowIn.off {A : Ad} {I L : Addr} {oI : Obj} {news : List (Addr × Obj)} {h₀ h : Heap} {v : Value} (r : RowIn A news v) (N : News h₀ L h news) (hI : (I, oI) ∈ news) (hc : ItC oI.cls) : RowIn A (Hd.off I news) v := by
  obtain ⟨a, k, c, f, s, z, t1, t2, t3, t4, t5, h1, h2, h3⟩ := r
  exact ⟨a, k, c, f, s, z, t1, t2, t3, t4, t5, h1, h2.off N hI (fun e => hc.2.2.1 e.symm), h3⟩
section
open PySem.SeqAt
theorem same_ne {A : Ad} {B : Around} {s : Shared} {h₀ : Heap} {L c e : Addr} {news : List (Addr × Obj)} {vs us : List Value} {cn en : Nat} (N : News h₀ L s.heap news) (S : Same A news vs us) (hc : (c, listOf vs.toArray cn) ∈ news) (he : (e, listOf us.toArray en) ∈ news) (hu : B.units + 1 < cLine) :
    RcNeAt B s (.ref c) (.ref e) false := by
  have hl : s.heap.IsList c vs.toArray := ⟨_, (N _ hc).1, rfl, cn, rfl⟩
  have hl' : s.heap.IsList e us.toArray := ⟨_, (N _ he).1, rfl, en, rfl⟩
  have fin : ∀ n : Nat, (!(List.range n).all (fun _ => true)) = false := fun n => by simp
  cases S with
  | copy vs h =>
    have q := RcNeAt.lists (A := B) (s := s) (e := fun _ => true) hl hl' rfl (by omega) (fun j h1 h2 => EqAt.same _)
    rw [fin] at q
    exact q
  | num n t u =>
    have q := RcNeAt.lists (A := B) (s := s) (e := fun _ => true) hl hl' rfl (by omega) (fun j h1 h2 => by
      have hj : j = 0 := by simpa using h1
      subst hj
      have z := EqAt.int_int (A := B.in1) (s := s) n t n u
      rw [beq_self_eq_true] at z
      exact z)
    rw [fin] at q
    exact q
  | pair a b k n t u t' u' f g =>
    have q := RcNeAt.lists (A := B) (s := s) (e := fun _ => true) hl hl' rfl (by omega) (fun j h1 h2 => by
      have hj : j = 0 := by simpa using h1
      subst hj
      show EqAt B.in1 s (.ref a) (.ref b) true
      by_cases hab : a = b
      · subst hab; exact EqAt.same _
      · have ta : s.heap.IsTuple a [Value.int k t, Value.int n u].toArray := ⟨_, (N _ f.1).1, rfl, 0, rfl⟩
        have tb : s.heap.IsTuple b [Value.int k t', Value.int n u'].toArray := ⟨_, (N _ g.1).1, rfl, 0, rfl⟩
        have z := RcAt.tuples (A := B.in1) (s := s) (e := fun _ => true) ta tb (by show B.units + 1 < cLine; exact hu) (fun j h1 h2 => by
          have hj : j = 0 ∨ j = 1 := by
            have : j < 2 := by simpa using h1
            omega
          rcases hj with rfl | rfl
          · have y := EqAt.int_int (A := B.in1.in1) (s := s) k t k t'
            rw [beq_self_eq_true] at y
            exact y
          · have y := EqAt.int_int (A := B.in1.in1) (s := s) n u n u'
            rw [beq_self_eq_true] at y
            exact y)
        exact EqAt.of_refs hab z)
    rw [fin] at q
    exact q
end
/-- what the loops leave as it was: the lists of thrown and told, the numbers -/
structure Kp (A : Ad) (th tl D : Addr) (ys : List Value) (nx : List (Addr × Obj)) : Prop where
  th : Fz A nx th (listOf ([] : List Value).toArray 0)
  tl : Fz A nx tl (listOf ([] : List Value).toArray 0)
  nums : Fz A nx D (LCg.lst ys)
theorem Kp.ext {A : Ad} {th tl D : Addr} {ys : List Value} {n1 n2 : List (Addr × Obj)} (k : Kp A th tl D ys n1) (e : Ext A n1 n2) : Kp A th tl D ys n2 := ⟨k.th.ext e, k.tl.ext e, k.nums.ext e⟩
theorem Kp.off {A : Ad} {I L th tl D : Addr} {ys : List Value} {oI : Obj} {news : List (Addr × Obj)} {h₀ h : Heap} (k : Kp A th tl D ys news) (N : News h₀ L h news) (hI : (I, oI) ∈ news) (hc : ItC oI.cls) : Kp A th tl D ys (Hd.off I news) :=
  ⟨k.th.off N hI (fun e => hc.2.1 e.symm), k.tl.off N hI (fun e => hc.2.1 e.symm), k.nums.off N hI (fun e => hc.2.1 e.symm)⟩
noncomputable def LoopJ (w : World) (A : Ad) (th tl D : Addr) (ys : List Value) (c : Nat) (P : List (Addr × Obj) → Value → Prop) (r : List Value) (nx : List (Addr × Obj)) : Prop :=
  ∃ S, Wd w A S nx ∧ S.tl.length + 8 * r.length ≤ c ∧ S.il.length + 8 * r.length ≤ c ∧ S.kept.length + 8 * r.length ≤ c ∧ S.sk.length + 8 * r.length ≤ c ∧ Kp A th tl D ys nx ∧ ∀ v ∈ r, P nx v
noncomputable def NumAsk (_ : List (Addr × Obj)) (v : Value) : Prop := ∃ n t, v = .int n t ∧ 0 ≤ n ∧ n < 1000000007
theorem LoopJ.step {w : World} {A : Ad} {th tl D I L : Addr} {ys : List Value} {c : Nat} {P : List (Addr × Obj) → Value → Prop} {v : Value} {r : List Value} {S S' : St} {nx news' : List (Addr × Obj)} {oI : Obj} {h₀ h : Heap} (b1 : S.tl.length + 8 * (v :: r).length ≤ c) (b2 : S.il.length + 8 * (v :: r).length ≤ c) (b3 : S.kept.length + 8 * (v :: r).length ≤ c) (b4 : S.sk.length + 8 * (v :: r).length ≤ c)
    (kp : Kp A th tl D ys nx) (W : Wd w A S' news') (e : Ext A ((I, oI) :: nx) news') (B : Bd S S' 8) (N : News h₀ L h news') (hI : (I, oI) ∈ news') (hc : ItC oI.cls) (hP : ∀ v ∈ r, P (Hd.off I news') v) : LoopJ w A th tl D ys c P r (Hd.off I news') := by
  obtain ⟨q1, q2, q3, q4⟩ := B
  rw [List.length_cons] at b1 b2 b3 b4
  exact ⟨S', W.off N hI hc, by omega, by omega, by omega, by omega, (kp.ext (Ext.cons_l e)).off N hI hc, hP⟩
theorem kp_of {w : World} {A : Ad} {S : St} {th tl D : Addr} {ys : List Value} {n1 n2 : List (Addr × Obj)} (_ : Wd w A S n2) (a : Fz A n1 th (listOf ([] : List Value).toArray 0)) (b : Fz A n1 tl (listOf ([] : List Value).toArray 0)) (c : Fz A n1 D (LCg.lst ys)) (e : Ext A n1 n2) : Kp A th tl D ys n2 := (Kp.mk a b c).ext e
noncomputable abbrev LoopK {A : Ad} {th tl D : Addr} {ys : List Value} {n0 : List (Addr × Obj)} (_ : Kp A th tl D ys n0) (w : World) (c : Nat) (P : List (Addr × Obj) → Value → Prop) : List Value → List (Addr × Obj) → Prop := LoopJ w A th tl D ys c P
noncomputable abbrev LoopT {A : Ad} {th tl D l : Addr} {ys : List Value} {n0 : List (Addr × Obj)} {o : Obj} (_ : Fz A n0 l o) (_ : Kp A th tl D ys n0) (w : World) (c : Nat) (P : List (Addr × Obj) → Value → Prop) : List Value → List (Addr × Obj) → Prop := fun r nx => Fz A nx l o ∧ LoopJ w A th tl D ys c P r nx
theorem itc_of_list {oI : Obj} (h : oI.cls = .type "list_iterator") : ItC oI.cls := h ▸ itc_list
theorem itc_of_tup {oI : Obj} (h : oI.cls = .type "tuple_iterator") : ItC oI.cls := h ▸ itc_tup
theorem LoopJ.bds {w : World} {A : Ad} {th tl D : Addr} {ys : List Value} {c : Nat} {P : List (Addr × Obj) → Value → Prop} {r : List Value} {nx : List (Addr × Obj)} (h : LoopJ w A th tl D ys c P r nx) (hc : c ≤ 7000) :
    ∃ S, Wd w A S nx ∧ S.tl.length ≤ 7000 ∧ S.il.length ≤ 7000 ∧ S.kept.length ≤ 7000 ∧ S.sk.length ≤ 7000 ∧ (S.tl.length + 8 * r.length ≤ c ∧ S.il.length + 8 * r.length ≤ c ∧ S.kept.length + 8 * r.length ≤ c ∧ S.sk.length + 8 * r.length ≤ c) ∧ Kp A th tl D ys nx ∧ ∀ v ∈ r, P nx v := by
  obtain ⟨S, h1, h2, h3, h4, h5, h6, h7⟩ := h
  exact ⟨S, h1, by omega, by omega, by omega, by omega, ⟨h2, h3, h4, h5⟩, h6, h7⟩
theorem nums_of : ∀ {ys : List Value} {l : List Int}, IntsAre ys (l.map fun k' => k'.fmod 1000000007) → ∀ nx, ∀ v ∈ ys, NumAsk nx v
  | [], _, _, _, _, h => absurd h List.not_mem_nil
  | _ :: _, [], h, _, _, _ => by cases h
  | v :: ys, k :: l, h, nx, u, hu => by
    cases h with
    | cons _ t r =>
      rcases List.mem_cons.mp hu with rfl | hu
      · have q := Int.fmod_eq_emod_of_nonneg k (by decide : (0 : Int) ≤ 1000000007)
        refine ⟨_, t, rfl, ?_, ?_⟩ <;> dsimp only <;> omega
      · exact nums_of r nx u hu
theorem nums_len {ys : List Value} {l : List Int} (h : IntsAre ys ((List.take 24 l).map fun k' => k'.fmod 1000000007)) : ys.length ≤ 24 := by
  have := h.length
  rw [this, List.length_map, List.length_take]
  exact Nat.min_le_left _ _
noncomputable abbrev KeptJ {A : Ad} {th tl D : Addr} {ys : List Value} {n0 : List (Addr × Obj)} (_ : Kp A th tl D ys n0) (w : World) (S : St) : List Value → List (Addr × Obj) → Prop := fun r nx => Wd w A S nx ∧ Kp A th tl D ys nx ∧ ∀ v ∈ r, KeptIn A nx v
theorem ne_same {A : Ad} {w : World} {B : Around} {E : Value → Shared → Prop} {s : Shared} {h₀ : Heap} {L c e : Addr} {news : List (Addr × Obj)} {vs us : List Value} {cn en : Nat} {Q : Value → Shared → Prop} (N : News h₀ L s.heap news) (S : Same A news vs us) (hc : Fz A news c (listOf vs.toArray cn)) (he : Fz A news e (listOf us.toArray en)) (hu : B.units + 1 < cLine) (h : Q (.bool false) s) :
    wpAny (model pg w) B (compareOp .NotEq (.ref c) (.ref e)) Q E s := same_ne N S hc.mem he.mem hu _ _ _ _ h
theorem eq_empty {w : World} {B : Around} {E : Value → Shared → Prop} {s : Shared} {h₀ : Heap} {L a b : Addr} {news : List (Addr × Obj)} {c d : Nat} {Q : Value → Shared → Prop} (N : News h₀ L s.heap news) (ha : (a, listOf ([] : List Value).toArray c) ∈ news) (hb : (b, listOf ([] : List Value).toArray d) ∈ news) (hu : B.units + 64 < cLine) (h : Q (.bool true) s) :
    wpAny (model pg w) B (compareOp .Eq (.ref a) (.ref b)) Q E s := eq_intsK (ns := []) (ms := []) (lstN N ha) .nil (lstN N hb) .nil hu h


theorem beq_of_ne {a b : Int} (h : a ≠ b) : ¬ ((a == b) = true) := by simpa using h
theorem beq_of_eq {a b : Int} (h : a = b) : (a == b) = true := by simpa using h
theorem bne_of_ne {a b : Int} (h : a ≠ b) : (a != b) = true := by simpa using h
theorem dec_not {p : Prop} [Decidable p] (h : ¬ p) : ¬ (decide p = true) := by simpa using h
theorem bne_of_eq {a b : Int} (h : a = b) : ¬ ((a != b) = true) := by simpa using h
theorem subM {l l' : List (Addr × Obj)} {x : Addr × Obj} (k : ∀ p ∈ l, p ∈ l') (h : x ∈ l) : x ∈ l' := k _ h
theorem ite_ff {a b : Prop} (h : b) : if false = true then a else b := h
theorem ite_tt {a b : Prop} (h : a) : if true = true then a else b := h
local macro_rules | `(tactic| k_mem) => `(tactic| k_extra "kmem")
local macro_rules | `(tactic| ksw_less) => `(tactic| (k_dflt (refine' cc_use ?C ?k1 ?k2 ?k3 ?k4 ?k5 ?kK ?kd ?ku ?kp ?_; (case' C => k_extra "rel"); (case k1 => k_asm); (case k2 => k_asm); (case k3 => k_asm); (case k4 => k_asm); (case k5 => k_asm); (case kK => k_extra "eq"); (case kd => k_extra "room"); (case ku => k_extra "uroom"); (case kp => k_extra "unf"))))
local macro_rules | `(tactic| walk_at $s:str) => `(tactic| k_extra $s)
theorem lines_on : True := by
  k_with_none
  k_with "eq" => first | exact rfl | assumption | fail
  k_with "room" => first | exact room1 (by assumption) (by decide) | exact room0 (by assumption) | exact roomA (by assumption) (by decide) | exact room2 (by assumption) (by decide) | exact roomB (by assumption) (by decide) | exact room3 (by assumption) (by decide) | exact roomC (by assumption) (by decide) | ktr_room | fail
  k_with "uroom" => first | exact uroom1 (by assumption) (by decide) | exact uroom2 (by assumption) (by decide) | exact uroom3 (by assumption) (by decide) | ktr_units | fail
  k_with "unf" => first | ((try dsimp only); (repeat' (with_reducible refine And.intro ?_ ?_)); all_goals first | with_reducible assumption | trivial | exact Nat.ne_of_lt (by omega) | exact Nat.ne_of_gt (by omega) | omega | k_extra "V mem") | ktr_unf | fail
  k_with "rel" => first | refine' c_kt .. | fail
  k_with "rel" => first | refine' c_host .. | fail
  k_with "rel" => first | refine' c_heap .. | fail
  k_with "rel" => first | refine' c_tray .. | fail
  k_with "rel" => first | refine' c_bed .. | fail
  k_with "rel" => first | refine' c_inst .. | fail
  k_with "rel" => first | refine' c_law_ask .. | fail
  k_with "kin" => first | assumption | exact Ne.symm (by assumption) | exact Wd.ne (by assumption) (by decide) (by decide) (by decide) | exact NT.at (by assumption) (by decide) | (refine neN ?_; omega) | kcj_in | fail
  k_with "kmem" => first | exact List.Mem.head _ | (refine' List.mem_cons_of_mem _ ?_; k_mem) | (focus (refine' mem_foc ?_ ?_; rotate_left; k_extra "kin"; k_mem)) | exact Wd.mem (by assumption) _ _ (by rfl) | exact Fz.mem (by first | assumption | exact Fz.ext (by assumption) (by assumption)) | ktr_member | fail
  k_with "kmem" => first | k_extra "V mem" | k_extra "Z mem" | fail
  k_with "V mem" => first | with_reducible assumption | exact List.Mem.head _ | exact subM (by with_reducible assumption) (by k_extra "V mem") | (refine List.mem_cons_of_mem _ ?_; k_extra "V mem")
  k_with "Z fz" => first | with_reducible assumption | exact Fz.ext2 (by with_reducible assumption) (by k_extra "Z fz")
  k_with "Z ext" => first | with_reducible assumption | with_reducible exact Ext.refl | exact Ext.trans2 (by with_reducible assumption) (by k_extra "Z ext")
  k_with "Z mem" => first | exact Wd.mem (by with_reducible assumption) _ _ (by rfl) | exact Fz.mem (by k_extra "Z fz") | exact List.Mem.head _ | (refine List.mem_cons_of_mem _ ?_; k_extra "Z mem")
  k_with "call ref" => first | (k_here; (with_reducible show wpAny _ _ (call (Value.ref _) _) _ _ _); ksw_less; intros; (try dsimp only); (try k_fold)) | fail
  k_with "subscriptTail" => first | (k_here; (with_reducible show wpAny _ _ (subscriptTail _ _ (Value.ref _) (Value.int _ _)) _ _ _); k_dflt (refine' item_news ?u1N ?u1m ?u1a ?u1b ?u1x ?_ ?u1s; (case u1s => with_unfolding_all rfl); (case u1N => k_asm); (case u1m => k_mem); (case u1a => first | decide | omega); (case u1b => first | decide | omega); (case u1x => first | assumption | rfl); k_whole)) | fail
  k_with "getAttr ref" => first | (k_here; k_dflt (refine' get_own ?u2k1 ?u2k2 ?u2k3 ?u2k4 ?u2k5 ?u2k6 ?u2k7 ?u2k8 ?u2k9 ?_; (case u2k1 => k_asm); (case u2k2 => k_asm); (case u2k3 => (refine' InstAt.of_news ?u2N ?u2h1 ?u2h2; (case u2N => k_asm); (case u2h1 => k_mem); (case u2h2 => k_mem))); (case u2k4 => k_is); (case u2k5 => k_is); (case u2k6 => k_is); (case u2k7 => k_is); (case u2k8 => assumption); (case u2k9 => k_handed); k_whole)) | fail
  k_with "pyIter ref" => first | (k_here; (with_reducible show wpAny _ _ (pyIter (Value.ref _)) (fun it s₂ => TurnsAt _ _ _ _ _ _ _ _ _ it s₂) _ _); (rename Fr _ _ _ _ => lF'); (with_unfolding_all refine' iter_tupTurns ?u3h lF' ?u3N ?u3m ?u3c ?u3d ?_; (case u3h => exact rfl); (case u3N => k_asm); (case u3m => k_mem); (case u3c => exact rfl); (case u3d => exact rfl); k_whole); clear lF'; intro i' l1; (try k_lt l1)) | fail
  k_with "subscriptTail Name Constant ref str" => first | (k_here; (with_reducible show wpAny _ _ (subscriptTail _ _ (Value.ref _) (Value.str _ _)) _ _ _); k_dflt (refine' kda_item (knd := PySem.strKind _ _) ?u4N ?u4m ?u4d (strKind_is _ _ _ _) ?u4l ?_; (case u4N => k_asm); (case u4m => k_mem); (case u4d => exact Wd.wd (by assumption)); (case u4l => rfl); k_whole); (try dsimp only)) | fail
  k_with "ite" => first | (k_here; k_openite; first | (with_reducible refine ite_neg (beq_of_ne (by omega)) ?_) | (with_reducible refine ite_pos (beq_of_eq (by omega)) ?_) | (with_reducible refine ite_neg (bne_of_eq (by omega)) ?_) | (with_reducible refine ite_pos (bne_of_ne (by omega)) ?_) | (with_reducible refine ite_pos (decide_eq_true (by omega)) ?_) | (with_reducible refine ite_neg (dec_not (by omega)) ?_)) | fail
  k_with "ite" => first | ((with_reducible refine ite_ff ?_)) | ((with_reducible refine ite_tt ?_)) | fail
  k_with "U for" => first | (k_here; refine' For_turns ?ufF ?_ ?ufs ?ufe; (case ufF => k_asm); (case ufs => intro x; rfl); (case ufe => passes_own)) | fail
  k_with "exec For Tuple Tuple cons nil" => k_extra "U for"
  k_with "exec For Name Name cons nil" => first | (k_here; (rename Fr _ _ _ _ => lF'); (with_unfolding_all refine' For_turns lF' ?_; k_whole)) | fail
  k_with "exec For Name Name cons nil" => k_extra "U for"
  k_with "exec For Tuple Subscript cons nil" => k_extra "U for"
  k_with "execs cons" => first | (k_here; refine wpAny_execs_cons ?_) | fail
  k_with "execs nil" => first | (k_here; refine wpAny_execs_nil ?_) | fail
  k_with "newTuple" => first | (k_here; k_dflt (refine' tup_w ?u5W ?u5F ?u5N ?_ ?u5z; (case u5F => k_asm); (case u5N => k_asm); (case u5W => with_reducible assumption); (case u5z => kmk_size)); intro D' h' n' F' W' X' Z' N'; (try k_sweep)) | fail
  k_with "call builtin:sorted" => first | (k_here; k_dflt (refine' sorted_w ?u6W ?u6F ?u6N ?u6H ?u6K ?_; (case u6F => k_asm); (case u6N => k_asm); (case u6W => with_reducible assumption); (case u6H => exact rfl); (case u6K => with_reducible assumption)); intro D' v' c' h' tk' n' F' W' X' Z' N' I'; (try k_sweep)) | fail
  k_with "compareOp NotEq ref ref" => first | (k_here; k_dflt (refine' ne_w2 ?u7W ?u7N ?u7a ?u7I ?u7J ?u7u ?_; (case u7N => k_asm); (case u7W => with_reducible assumption); (case u7a => k_extra "Z mem"); (case u7I => assumption); (case u7J => assumption); (case u7u => first | ke_room | units_room | decide); k_whole); (rename News _ _ _ (_ :: _) => lO'); intro n' W' X' N'; clear lO') | fail
  k_with "compareOp NotEq ref ref" => first | (k_here; k_dflt (refine' ne_same ?u8N ?u8S ?u8c ?u8e ?u8u ?_; (case u8N => k_asm); (case u8S => with_reducible assumption); (case u8c => with_reducible assumption); (case u8e => with_reducible assumption); (case u8u => first | ke_room | units_room | decide); k_whole)) | fail
  k_with "compareOp Eq ref ref" => first | (k_here; k_dflt (refine' eq_empty ?u9N ?u9a ?u9b ?u9u ?_; (case u9N => k_asm); (case u9a => k_extra "Z mem"); (case u9b => k_extra "Z mem"); (case u9u => first | ke_room | units_room | decide); k_whole)) | fail
  k_with "exec If" => first | (refine Halt.to ?_) | fail
  trivial
theorem main : PySem.Challenge.rw_sz0064_01.Holds := by
  w_on
  refine holds_law wellIs fun said => ?_
  refine holds_open (q := q) (loose := loose) (Xt := Xt) (XP := XL q []) (Yf := fun s => s.heap) (Ya := fun w => H1 w.params) (YP := fun w h => InK KF w h) leftIs kOf (fun w h h' => InK.keeps w h h') (fun s e => xl_of s (Bool.and_eq_true_iff.mp e).1) XL.keeps (by rfl) (by rfl) (by rfl) (fun s e => recFacts_of (Bool.and_eq_true_iff.mp e).2) (by rfl) said okIs bareIs ?hw ?hc
  case hw => w_witness2
  w_strict (
    clear said
    k_fill
    intro w s₀ s₁ mg mb G Y fa o pm cd doc dV kV ho hd hcd hD hmg hg args vals as hpre hlay hrd hwl hlo
    have KX : (KF w.params).In s₁.heap := Y
    have X := (Ground.X G).1
    have V := (Ground.X G).2
    have GL := glob_more (Ground.glob G namesIs impIs) V
    refine Ground.open G ?_
    intro T B D TE TW
    try (refine guard_noD D (by decide +kernel) ?_; clear D)
    obtain ⟨_, _, M⟩ := bmod_of_top T
    have TA := at_of_top T
    try (obtain ⟨_, _, he, B0⟩ := based_of_top T rfl hmg ho hd; have he' : cd = _ := he; subst he'; clear he)
    clear hmg
    wrow_args hpre hlay hrd hwl hlo
    all_goals (
      first | refine callC_kw (enter_call ?_) | refine enter_call ?_ | refine callC_kw (enter_callW ?_) | refine enter_callW ?_ | w_how
      w_top off
      try refine codeAny_mono ?_ (fun _ _ g => GoodW.toG g)
      have K0 := below_caller (Top.heap T)
      w_call any ho hd hcd hD T F
      clear hd TA
      k_drop
      skip)
    all_goals try k_fold
    k_steps
    refine Halt.of ?_
    rename News _ _ _ _ => lN
    refine' Exists.elim (wd_start ?q_s5 ?q_b5 ?q_o1 ?q_o2 ?q_k1 ?q_k2 ?q_k3 ?q_k4 ?q_k5 ?q_k6 ?q_k7 ?q_s4 ?q_b4 ?q_o3 ?q_h1 ?q_h2 ?q_h3 ?q_s3 ?q_b3 ?q_o4 ?q_o5 ?q_o6 ?q_g1 ?q_g2 ?q_g3 ?q_g4 ?q_g5 ?q_g6 ?q_g7 ?q_g8 ?q_g9 ?q_g10 ?q_g11 ?q_g12 ?q_s2 ?q_b2 ?q_o7 ?q_o8 ?q_o9 ?q_o10 ?q_o11 ?q_o12 ?q_o13 ?q_m1 ?q_m2 ?q_m3 ?q_m4 ?q_m5 ?q_m6 ?q_m7 ?q_m8 ?q_m9 ?q_m10 ?q_m11 ?q_m12 ?q_m13 ?q_m14 ?q_m15 ?q_m16 ?q_m17 ?q_m18 ?q_s1 ?q_b1 ?q_o14 ?q_o15 ?q_o16 ?q_e1 ?q_e2 ?q_e3 ?q_e4 ?q_e5 ?q_e6 ?q_e7 ?q_J ?q_b0 ?q_o17 ?q_w1 ?q_w2) ?_
    case q_J => assumption
    case q_s1 => assumption
    case q_b1 => assumption
    case q_o14 => assumption
    case q_e3 => assumption
    case q_e4 => assumption
    case q_e5 => assumption
    case q_e6 => assumption
    case q_e7 => assumption
    case q_e1 => assumption
    case q_e2 => assumption
    case q_o15 => assumption
    case q_o16 => assumption
    case q_w2 => assumption
    case q_b0 => assumption
    case q_w1 => assumption
    case q_m1 => assumption
    case q_m2 => assumption
    case q_m10 => assumption
    case q_m11 => assumption
    case q_m12 => assumption
    case q_m13 => assumption
    case q_m14 => assumption
    case q_m15 => assumption
    case q_m16 => assumption
    case q_s2 => assumption
    case q_m3 => assumption
    case q_m4 => assumption
    case q_m5 => assumption
    case q_m6 => assumption
    case q_m7 => assumption
    case q_m8 => assumption
    case q_m9 => assumption
    case q_m17 => assumption
    case q_m18 => assumption
    case q_o7 => assumption
    case q_o8 => assumption
    case q_o9 => assumption
    case q_o10 => assumption
    case q_o11 => assumption
    case q_o12 => assumption
    case q_o13 => assumption
    case q_b2 => assumption
    case q_g1 => assumption
    case q_g2 => assumption
    case q_g7 => assumption
    case q_g8 => assumption
    case q_g3 => assumption
    case q_g4 => assumption
    case q_g5 => assumption
    case q_g6 => assumption
    case q_g9 => assumption
    case q_g10 => assumption
    case q_g11 => assumption
    case q_g12 => assumption
    case q_s3 => assumption
    case q_b3 => assumption
    case q_o4 => assumption
    case q_o5 => assumption
    case q_o6 => assumption
    case q_h1 => assumption
    case q_h2 => assumption
    case q_h3 => assumption
    case q_s4 => assumption
    case q_b4 => assumption
    case q_o3 => assumption
    case q_k1 => assumption
    case q_k2 => assumption
    case q_k3 => assumption
    case q_k4 => assumption
    case q_k5 => assumption
    case q_k6 => assumption
    case q_k7 => assumption
    case q_s5 => assumption
    case q_b5 => assumption
    case q_o1 => assumption
    case q_o2 => assumption
    case q_o17 => exact And.left (by assumption)
    intro A hA
    obtain ⟨S, hS⟩ := hA
    obtain ⟨hW, x14, x9, x18, x17, x19, y1, y2, y3, y4, y5, y6, y7, y8, y9, y10, y11⟩ := hS
    repeat (rename (@LT.lt Nat _ _ _) => zz; clear zz)
    subst x14 x9 x18 x17 x19
    k_with "exec If" => first | (k_here; refine wpAny_If ?_) | fail
    k_with "pyIter ref" => first | (refine Halt.to ?_) | fail
    have a1 := hW.e_core
    have y5' : A.cm.map (·.1) = (List.range 35).map fun (i : Nat) => (70 : Int) + (i : Int) := y5
    clear y5
    k_steps
    refine Halt.of ?_
    rename Fr _ _ _ _ => lF
    rename News _ _ _ _ => lN
    rename Wd _ _ _ _ => lW
    rename Fz _ _ _ _ => lZ
    have kp := kp_of lW y6 y8 (y11 (_, _) (.head _)) (by k_extra "Z ext")
    dsimp only at kp
    refine' tup_keep [Str.ofString "kind", Str.ofString "which", Str.ofString "form", Str.ofString "sort", Str.ofString "z"] (LoopT lZ kp w 120 (RowIn A)) ?hh lF lN lZ.mem ?h0 ?turn ?done
    case hh => exact rfl
    case h0 =>
      refine ⟨lZ, S, lW, ?b1, ?b2, ?b3, ?b4, kp, ?rows⟩
      case b1 => rw [y1]; exact Nat.le_of_ble_eq_true rfl
      case b2 => rw [y2]; exact Nat.le_of_ble_eq_true rfl
      case b3 => rw [y3]; exact Nat.le_of_ble_eq_true rfl
      case b4 => rw [y4]; exact Nat.le_of_ble_eq_true rfl
      case rows =>
        simp only [List.forall_mem_cons]
        repeat' (refine And.intro ⟨_, _, _, _, _, _, _, _, _, _, _, rfl, by k_extra "Z fz", by decide, by decide, by decide, by decide, by decide, by decide, by decide, by decide, by decide, by decide⟩ ?_)
        exact fun _ h => absurd h List.not_mem_nil
    case turn =>
      intro v r u nx h tk I oI hj hc F N
      clear lF lN lW
      obtain ⟨S1, hW1, d1, d2, d3, d4, ⟨b1, b2, b3, b4⟩, kp1, hr⟩ := hj.2.bds (by decide)
      obtain ⟨a, k, c, f, s, z, t1, t2, t3, t4, t5, rfl, fz, i1, i2, i3, i4, i5, i6, i7, i8, i9, i10⟩ := hr _ (.head _)
      have hWc : Wd w A S1 ((I, oI) :: nx) := hW1.cons
      have hNT := hWc.ntI N (.head _) (itc_of_tup hc)
      have fz' := fz.ext (Ext.refl.cons : Ext A nx ((I, oI) :: nx))
      k_steps
      rename Fr _ _ _ _ => lF
      rename News _ _ _ _ => lN
      rename Wd _ _ _ _ => lW
      rename Ext _ _ _ => lE
      rename Bd _ _ _ => lB
      have hI := lE _ (.head _) hNT
      have hl := hj.1.ext (Ext.cons_l lE)
      refine turn_end lF lN hI hl.mem ?cl ?nm ⟨hl.off lN hI (fun e => (itc_of_tup hc).2.2.1 e.symm), LoopJ.step b1 b2 b3 b4 kp1 lW lE lB lN hI (itc_of_tup hc) fun v hv => ((hr v (.tail _ hv)).ext (Ext.cons_l lE)).off lN hI (itc_of_tup hc)⟩
      case cl => rw [hc]; show Value.type "tuple" ≠ Value.type "tuple_iterator"; decide
      case nm =>
        intro y hy
        have g1 : y ≠ Str.ofString "kind" := fun e => by subst e; exact absurd hy (by decide)
        have g2 : y ≠ Str.ofString "which" := fun e => by subst e; exact absurd hy (by decide)
        have g3 : y ≠ Str.ofString "form" := fun e => by subst e; exact absurd hy (by decide)
        have g4 : y ≠ Str.ofString "sort" := fun e => by subst e; exact absurd hy (by decide)
        have g5 : y ≠ Str.ofString "z" := fun e => by subst e; exact absurd hy (by decide)
        simp only [if_neg g1, if_neg g2, if_neg g3, if_neg g4, if_neg g5, fkeep, hy, Bool.false_eq_true, if_false]
    case done =>
      intro u nx h tk hj F N
      obtain ⟨-, S1, hW1, b1, b2, b3, b4, kp1, -⟩ := hj
      clear lF lN lW kp lZ
      k_steps
      refine Halt.of ?_
      rename Fr _ _ _ _ => lF
      rename News _ _ _ _ => lN
      have b1' : S1.tl.length ≤ 120 := b1
      have b2' : S1.il.length ≤ 120 := b2
      have b3' : S1.kept.length ≤ 120 := b3
      have b4' : S1.sk.length ≤ 120 := b4
      have c1 := nums_len (by assumption)
      have c2 := nums_of (by assumption) nx
      refine' list_keep [Str.ofString "n", Str.ofString "y"] (LoopT kp1.nums kp1 w 320 NumAsk) ?p_hh lF lN kp1.nums.mem ?p_hc ?p_hd ?p_h0 ?p_turn ?p_done
      case p_hh => exact rfl
      case p_hc => exact rfl
      case p_hd => exact rfl
      case p_h0 => exact ⟨kp1.nums, S1, hW1, by omega, by omega, by omega, by omega, kp1, c2⟩
      case p_turn =>
        clear lF lN c1 c2 b1' b2' b3' b4' b1 b2 b3 b4 hW1
        intro v r u nx h tk I oI hj hc F N
        obtain ⟨S1, hW1, d1, d2, d3, d4, ⟨b1, b2, b3, b4⟩, kp1, hr⟩ := hj.2.bds (by decide)
        obtain ⟨n, t, rfl, i1, i2⟩ := hr _ (.head _)
        have hWc : Wd w A S1 ((I, oI) :: nx) := hW1.cons
        have hNT := hWc.ntI N (.head _) (itc_of_list hc)
        have e1 : n.fdiv 11 = n / 11 := Int.fdiv_eq_ediv_of_nonneg _ (by decide)
        have e2 : n.fmod 11 = n % 11 := Int.fmod_eq_emod_of_nonneg _ (by decide)
        have e3 : (n.fdiv 11).fmod 4 = (n.fdiv 11) % 4 := Int.fmod_eq_emod_of_nonneg _ (by decide)
        have e4 : (n.fdiv 11).fdiv 4 = (n.fdiv 11) / 4 := Int.fdiv_eq_ediv_of_nonneg _ (by decide)
        have e5 : ((n.fdiv 11).fdiv 4).fmod 5 = ((n.fdiv 11).fdiv 4) % 5 := Int.fmod_eq_emod_of_nonneg _ (by decide)
        have e6 : (n.fdiv 11).fdiv 20 = (n.fdiv 11) / 20 := Int.fdiv_eq_ediv_of_nonneg _ (by decide)
        have e7 : ((n.fdiv 11).fdiv 20).fmod 7 = ((n.fdiv 11).fdiv 20) % 7 := Int.fmod_eq_emod_of_nonneg _ (by decide)
        have e8 : (n.fdiv 11).fdiv 140 = (n.fdiv 11) / 140 := Int.fdiv_eq_ediv_of_nonneg _ (by decide)
        k_steps
        rename Fr _ _ _ _ => lF
        rename News _ _ _ _ => lN
        rename Wd _ _ _ _ => lW
        rename Ext _ _ _ => lE
        rename Bd _ _ _ => lB
        have hI := lE _ (.head _) hNT
        have hl := hj.1.ext (Ext.cons_l lE)
        refine turn_end lF lN hI hl.mem ?p_cl ?p_nm ⟨hl.off lN hI (fun e => (itc_of_list hc).2.1 e.symm), LoopJ.step b1 b2 b3 b4 kp1 lW lE lB lN hI (itc_of_list hc) fun v hv => hr v (.tail _ hv)⟩
        case p_cl => rw [hc]; show Value.type "list" ≠ Value.type "list_iterator"; decide
        case p_nm =>
          intro y hy
          have g1 : y ≠ Str.ofString "n" := fun e => by subst e; exact absurd hy (by decide)
          have g2 : y ≠ Str.ofString "y" := fun e => by subst e; exact absurd hy (by decide)
          simp only [if_neg g1, if_neg g2, fkeep, hy, Bool.false_eq_true, if_false]
      case p_done =>
        clear c1 c2 b1' b2' b3' b4' b1 b2 b3 b4
        intro u nx h tk hj F N
        obtain ⟨-, S2, hW2, -, -, -, -, kp2, -⟩ := hj
        clear lF lN
        k_steps
        refine Halt.of ?_
        rename Fr _ _ _ _ => lF
        rename News _ _ _ _ => lN
        refine' list_keep [Str.ofString "cells", Str.ofString "want"] (KeptJ kp2 w S2) ?r_hh lF lN (hW2.mem 19 _ rfl) ?r_hc ?r_hd ?r_h0 ?r_turn ?r_done
        case r_hh => exact rfl
        case r_hc => exact rfl
        case r_hd => exact rfl
        case r_h0 => exact ⟨hW2, kp2, hW2.kepts⟩
        case r_turn =>
          clear lF lN hW2
          intro v r u nx h tk I oI hj hc F N
          obtain ⟨hW3, kp3, hr⟩ := hj
          obtain ⟨p, c, e, vs, us, cn, en, rfl, f1, f2, f3, sm⟩ := (hr _ (.head _)).ex
          have ec : Ext A nx ((I, oI) :: nx) := Ext.refl.cons
          have hWc := hW3.keep (fun p hp => .tail _ hp : ∀ p ∈ nx, p ∈ (I, oI) :: nx)
          have f1' := f1.ext ec
          have f2' := f2.ext ec
          have f3' := f3.ext ec
          have sm' := sm.ext ec
          k_steps
          rename Fr _ _ _ _ => lF
          rename News _ _ _ _ => lN
          have ic := itc_of_list hc
          refine turn_end lF lN (.head _) (.tail _ (hW3.mem 19 _ rfl)) ?r_cl ?r_nm ⟨hWc.off lN (.head _) ic, (kp3.ext ec).off lN (.head _) ic, fun v hv => ((hr v (.tail _ hv)).ext ec).off lN (.head _) ic⟩
          case r_cl => rw [hc]; show Value.type "list" ≠ Value.type "list_iterator"; decide
          case r_nm =>
            intro y hy
            have g1 : y ≠ Str.ofString "cells" := fun e => by subst e; exact absurd hy (by decide)
            have g2 : y ≠ Str.ofString "want" := fun e => by subst e; exact absurd hy (by decide)
            simp only [if_neg g1, if_neg g2, fkeep, hy, Bool.false_eq_true, if_false]
        case r_done =>
          intro u nx h tk hj F N
          obtain ⟨hW3, kp3, -⟩ := hj
          clear lF lN hW2
          have th1 := kp3.th
          have th2 := kp3.tl
          obtain ⟨t9, y10⟩ := y10
          k_steps)


end
end Hd
theorem PySem.Challenge.cw_sz0064_01_holds : PySem.Challenge.rw_sz0064_01.Holds :=
  Hd.main
